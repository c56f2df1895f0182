import PyProof.Rows.All
import Wide.All
import OpenK.AllK
import Wide.FinOn
import HandS.ForMost
import HandS.ForExc
import HandS.Strs
import HandS.SetFor
import HandS.SortInts
import HandS.Deep
import HandS.Style
import HandS.Conv
import HandS.NoneIn
import HandS.IsInst
import HandS.Wide
import HandS.Codes
import HandS.Walk
import HandS.Zip
import HandS.StrMore
import HandS.RevRange
import HandS.Rev
import HandS.TupAny
import HandS.TupLen
import HandS.Steps
import HandS.Remove
import HandS.CallSlots
import HandS.ExcIs
import HandS.ExcValue
import KE.KDictDisplayH
import KE.KeyNested
import HandS.RaiseMore
import HandS.SortRule
import HandS.HotCalls
import HandS.ExcInitHot
import PySem.Challenge.RW_hotmoves_k27_number_games
set_option Elab.async false
set_option linter.all false
set_option maxRecDepth 100000
set_option maxHeartbeats 4000000
/-! F1: set(list of ints); sorted of a set of any size. -/
namespace Hm
open PySem PySem.Spec PyProof.Rows L2

/-- a set as it is made -/
abbrev emptySet (w : World) : Obj := { cls := .type "set", dict := none, data := .set #[] 0 (.fresh 0 0 (!w.params.followText "set-order")) }

section
variable {P : Program} {w : World} {A : Around} {E : Value → Shared → Prop} {s : Shared}

set_option maxHeartbeats 8000000 in
theorem set_of_list {l : Addr} {xs : Array Value} (ks : List Int) {Q : Value → Shared → Prop} (calm : A.handled = none) (isL : s.heap.IsList l xs) (are : IntsAre xs.toList ks) (few : ks.length + 1 < scanBound)
    (fin : ∀ (hp : Heap) (tk n : Nat), SetR w hp s.heap.objs.size (fun j => decide (j ∈ ks)) n → n ≤ ks.length → (∀ b o, s.heap.get? b = some o → hp.get? b = some o) → Q (.ref s.heap.objs.size) { s with heap := hp, toks := tk }) :
    wpAny (model P w) A (call (.type "set") [.ref l]) Q E s := by
  have sz : xs.size = ks.length := (Array.length_toList (xs := xs)).symm.trans (IntsAre.length are)
  have made := F.called_set.made
  have sub := F.called_set.sub
  obtain ⟨c, tl, mro⟩ := F.called_set.mro
  refine wpAny_call (codeAny_of_tree ?_)
  show wpAny _ _ (callAny (.type "set") _) _ _ _
  refine wpAny_pure ⟨Code.quiet_builtin _ (by decide +kernel), codeAny_builtin F.entry_type_call ?_⟩
  rw [Around.under_plain (weight_type_call_type "set" [.ref l] []) rfl]
  have f1 := F.called_set.notType
  have f2 := F.called_set.canCreate
  have f3 := F.typeCall_set_1 (.ref l)
  repeat (any_goals (first | assumption | wp_step))
  refine codeAny_mono (code_set_led1 (.ref l) (E := E) (Q₁ := fun v t => v = .ref s.heap.objs.size ∧ t = { s with heap := s.heap.push (emptySet w) }) ⟨rfl, rfl⟩) fun r t hr => ?_
  cases r with
  | error e => exact hr
  | ok fl =>
    cases fl with
    | next => exact hr.elim
    | brk => exact hr.elim
    | cont => exact hr.elim
    | ret v =>
      obtain ⟨rfl, rfl⟩ := hr
      have at0 : (s.heap.push (emptySet w)).get? s.heap.objs.size = some (emptySet w) := Heap.get?_push_size _ rfl
      have ty0 : Shared.TypeIs { s with heap := s.heap.push (emptySet w) } (.ref s.heap.objs.size) "set" := ⟨_, at0, rfl⟩
      have i1 := F.called_set.init.lookup
      have i2 := F.called_set.init.bind (.ref s.heap.objs.size)
      repeat (any_goals (first | assumption | wp_step))
      refine codeAny_mono (codeAny_call_builtin (R := wants (fun r t => r = .none ∧ ∃ hp tk n, t = { s with heap := hp, toks := tk } ∧ SetR w hp s.heap.objs.size (fun j => decide (j ∈ ks)) n ∧ n ≤ ks.length ∧ (∀ b o, s.heap.get? b = some o → hp.get? b = some o)) E)
        F.called_set.init.plain F.entry_set_init (check_set_init_1 ty0 ?_)) fun r t hr => ?_
      · obtain ⟨⟨oc, od, odt, osl⟩, got, e1, n0, e2⟩ := isL
        simp only at e1 e2
        subst e1 e2
        have got1 : (s.heap.push (emptySet w)).get? l = some { cls := .type "list", dict := od, data := .seq xs n0, slots := osl } := Heap.get?_push_of_some _ got
        have isL1 : (s.heap.push (emptySet w)).IsList l xs := ⟨_, got1, rfl, n0, rfl⟩
        have t1 := F.sub_list_set
        have t2 := F.sub_list_frozenset
        have t3 : (Value.type "list" == Value.type "dict") = false := by decide
        unfold Builtin.«set.__init__» noKeywords Builtin.Frozenset.updateFrom
        generalize eI : pyIter = I
        wp_walk
        subst eI
        refine wpAny_pyIter_list isL1 (wpAny_bind (wpAny_runValue ?_))
        have lt : l < s.heap.objs.size := Heap.lt_size got
        have calm3 : A.in1.in1.in1.handled = none := by simp [calm]
        have sz1 : (s.heap.push (emptySet w)).objs.size = s.heap.objs.size + 1 := Heap.size_push ..
        have neI : l ≠ (s.heap.push (emptySet w)).objs.size := by rw [sz1]; exact Nat.ne_of_lt (Nat.lt_succ_of_lt lt)
        have notS : s.heap.objs.size ∉ [(s.heap.push (emptySet w)).objs.size, l] := by
          rw [sz1]; intro z; simp only [List.mem_cons, List.not_mem_nil, or_false] at z
          rcases z with z | z
          · exact Nat.ne_of_lt (Nat.lt_succ_self _) z
          · exact Nat.ne_of_gt lt z
        have each : ∀ (i : Nat) (v : Value), xs[i]? = some v → ∃ k t, ks[i]? = some k ∧ v = .int k t := fun i v hv => by
          have hi : i < ks.length := by rw [← sz]; exact (Array.getElem?_eq_some_iff.mp hv).1
          obtain ⟨t, e⟩ := PyProof.Rows.IntsAre.int_at are i v (by rw [Array.getElem?_toList]; exact hv)
          exact ⟨ks[i], t, List.getElem?_eq_getElem hi, by rw [e, List.getD_eq_getElem?_getD, List.getElem?_eq_getElem hi]; rfl⟩
        refine set_update_ints ((Walks.list calm3 _ l neI xs).toS) s.heap.objs.size notS ks sz few each (xs.size - 0) 0 _ (by omega) (Nat.zero_le _)
          ⟨⟨_, Heap.get?_push_size _ rfl, rfl, rfl⟩, (isL1.push _)⟩ ?start ?done
        case start =>
          have g : ((s.heap.push (emptySet w)).push { cls := .type "list_iterator", data := .fields #[.ref l, .int 0 0] }).get? s.heap.objs.size = some (emptySet w) := Heap.get?_push_of_some _ at0
          exact ⟨0, Nat.le_refl 0, setR_new_at g⟩
        case done =>
          rintro ⟨hp, gs, dr, tk, os⟩ n mv nle R
          cases (show gs = s.gens from mv.gens)
          cases (show dr = s.drawn from mv.drawn)
          cases (show os = s.os from mv.os)
          show wpAny _ _ _ _ _ _
          refine wpAny_pure ?_
          show wpAny _ _ (ret Value.none) _ _ _
          rw [sz] at nle
          refine wpAny_pure ⟨rfl, hp, tk, n, rfl, R, nle, fun b o e => ?_⟩
          have b0 : b < s.heap.objs.size := Heap.lt_size e
          refine mv.heap b o (fun z => ?_) (Heap.get?_push_of_some _ (Heap.get?_push_of_some _ e))
          simp only [List.mem_cons, List.not_mem_nil, or_false] at z
          rw [sz1] at z
          rcases z with z | z
          · exact Nat.ne_of_lt b0 z
          · exact Nat.ne_of_lt (Nat.lt_succ_of_lt b0) z
      · cases r with
        | error e => exact hr
        | ok fl =>
          cases fl with
          | next => exact hr.elim
          | brk => exact hr.elim
          | cont => exact hr.elim
          | ret v =>
            obtain ⟨rfl, hp, tk, n, rfl, R, nle, keep⟩ := hr
            repeat (any_goals (first | assumption | wp_step))
            exact fin _ _ _ R nle keep

/-- sorted(s) of a set of ints of any size -/
theorem sorted_of_set {a : Addr} {S : Int → Bool} {n : Nat} {Q : Value → Shared → Prop} (R : SetR w s.heap a S n) (calm : A.handled = none)
    (fin : ∀ t p (out : Array Value) (c : Nat) (ns : List Int), (∀ b o, s.heap.get? b = some o → t.heap.get? b = some o) → t.gens = s.gens → t.os = s.os → s.heap.objs.size ≤ p →
      t.heap.get? p = some (seqObj "list" out c) → IntsAre out.toList ns → ns.Pairwise (· < ·) → (∀ k, k ∈ ns ↔ S k = true) → ns.length = n → Q (.ref p) t) :
    wpAny (model P w) A (call (.builtin "sorted") [.ref a]) Q E s := by
  obtain ⟨o, es, ep, t, ho, hex, hd, good, nd, mem, few, fits, num, ris, led⟩ := R
  refine Calls.call_function_entry kind_sorted plain_sorted entry_sorted (args_sorted1 _) ?_
  unfold Builtin.«sorted»
  refine wpAny_bind (m := checkCount "sorted" 1 1 _) (wpAny_pure ?_)
  refine wpAny_bind (collect_set (A := A.in1) calm ⟨o, ho, hex.1, hd⟩ fits few ris led fun s1 vs k1 big g1 o1 pm => ?_)
  have len : vs.length = n := by rw [pm.length_eq, List.length_map, Array.length_toList]; exact num
  have areI : IntsAre vs (vs.map Builtin.Re.reRawOf) := ints_of vs fun v hv => by
    obtain ⟨e, he, q⟩ := List.mem_map.mp (pm.mem_iff.mp hv)
    obtain ⟨k, tk, h1, _⟩ := good e he
    exact ⟨k, tk, q ▸ h1⟩
  have pk : (vs.map Builtin.Re.reRawOf).Perm (es.toList.map keyOf) := by
    have q := pm.map Builtin.Re.reRawOf
    rw [List.map_map] at q
    exact q
  have line : vs.length ≤ sizeLine := by
    rw [len, sizeLine_eq]; have : scanBound = 4096 := rfl; omega
  refine wpAny_bind (wpAny_newList ?_ line)
  have at1 : (s1.heap.push (seqObj "list" vs.toArray 0)).get? s1.heap.objs.size = some (seqObj "list" vs.toArray 0) := Heap.get?_push_size _ rfl
  refine wpAny_bind (wpAny_holding (wpAny_call_entry slot_list_sort ⟨_, at1, rfl⟩ entry_list_sort
    (SrtO.list_sort_ord SrtO.swo_int at1 line (fun h2 => SrtO.ints_sortable areI h2) fun out h1 h2 => ⟨_, rfl, ?_⟩) (args_list_sort _)))
  obtain ⟨j1, j2, j3⟩ := SrtO.ints_out areI h1 h2
  obtain ⟨c, hc⟩ := sortedHeap_at (vs := vs) (out := out.toArray) at1
  have pn : (out.map SrtO.iv).Perm (es.toList.map keyOf) := j2.trans pk
  refine wpAny_pure ⟨_, rfl, fin _ s1.heap.objs.size out.toArray c (out.map SrtO.iv) (fun b u e => ?_) g1 o1 big hc (by simpa using j1) (lt_of_le_nodup _ j3 (pn.nodup_iff.mpr nd)) (fun k => by rw [pn.mem_iff, ← mem k]) ?_⟩
  · have q := k1 b u e
    have lt := Heap.lt_size q
    show (sortedHeap (s1.heap.push (seqObj "list" vs.toArray 0)) s1.heap.objs.size vs out.toArray).get? b = some u
    rw [sortedHeap_old (Nat.ne_of_lt lt) (by rw [size_push']; exact Nat.lt_succ_of_lt lt)]
    exact Heap.get?_push_of_some _ q
  · rw [pn.length_eq, List.length_map, Array.length_toList]; exact num
end

section
variable {X : Cx}
/-- set(xs), xs a list of ints -/
def uSetI (K : PySem.W.Frag) (w : World) : List V → Hp → VK → Prop := fun xs H Q => ∃ (l : Addr) (ns : List Int), xs = [.ref l] ∧ SqL K H l (ns.map V.int) ∧ ns.length ≤ 4000 ∧
  ∀ (a : Addr) (n : Nat), H a = none → n ≤ ns.length → Q (.ref a) (upd H a (SetO w a (fun j => decide (j ∈ ns)) n))
theorem cu_setI (hc : X.calm = true) : CallR X (.type "set") (uSetI X.K X.w) := by
  intro pins s σ H xs us Q I r h
  obtain ⟨l, ns, rfl, hl, few, q⟩ := h
  rw [Vals.ref1 r]
  obtain ⟨its, rv, pl, hz⟩ := I.list hl
  have hs : scanBound = 4096 := rfl
  refine set_of_list ns (I.ok.hd hc) pl.isList (by simpa using rv.ints) (by omega) fun hp tk n R nle keep => ?_
  exact ⟨.ref _, upd H s.heap.objs.size (SetO X.w s.heap.objs.size (fun j => decide (j ∈ ns)) n), I.laid (t' := tk) keep (Nat.le_refl _) (setO_new R), rfl, q _ n (I.hok.fresh (Nat.le_refl _)) nle⟩
/-- sorted(s), s a set of ints -/
def uSortSet (w : World) : List V → Hp → VK → Prop := fun vs H Q => ∃ (a : Addr) (S : Int → Bool) (n : Nat), vs = [V.ref a] ∧ H a = some (SetO w a S n) ∧
  ∀ (ns : List Int) (p : Addr), ns.Pairwise (· < ·) → (∀ k : Int, k ∈ ns ↔ S k = true) → ns.length = n → H p = none → Q (.ref p) (upd H p (.lst (ns.map V.int)))
theorem cu_sortSet (hc : X.calm = true) : CallR X (.builtin "sorted") (uSortSet X.w) := by
  intro pins s σ H vs us Q I r h
  obtain ⟨a, S, n, rfl, ha, q⟩ := h
  have R := setO_get I ha
  have nb : n ≤ 4096 := by
    obtain ⟨_, es, _, _, _, _, _, _, _, _, few, _, num, _⟩ := R
    have hs : scanBound = 4096 := rfl
    omega
  rw [Vals.ref1 r]
  refine sorted_of_set R (I.ok.hd hc) fun s' p out c ns k g o big got areI up mem len => ?_
  have line : (ns.map V.int).length ≤ sizeLine := by rw [List.length_map, len, sizeLine_eq]; omega
  have new : H p = none := I.hok.fresh big
  have J : Inv X pins σ (upd H p (.lst (ns.map V.int))) { s with heap := s'.heap, gens := s'.gens, drawn := s'.drawn, toks := s'.toks } :=
    I.call (ch := []) (Un.laid k big new) (I.hok.laid k big ⟨line, out.toList, c, vals_of_ints areI, got⟩) (by rw [g]; exact I.bare) (fun _ z => nomatch z)
  have same : s' = { s with heap := s'.heap, gens := s'.gens, drawn := s'.drawn, toks := s'.toks } := by
    cases s'; cases s; cases o; rfl
  rw [same]
  exact ⟨.ref p, _, J, rfl, q ns p up mem len new⟩
end
end Hm

/-! F1b: dicts whose keys are nested tuples of ints and texts. -/
namespace Hm
open PySem PySem.Spec PyProof.Rows L2

mutual
/-- the value v is the key k, its tuples tracked -/
def NkV (H : Hp) : NestedKey → V → Prop
  | .none, v => v = .non
  | .num i, v => v = .int i
  | .text x, v => v = .str x
  | .tup ks, v => ∃ a vs, v = .ref a ∧ H a = some (.tup vs) ∧ NkVs H ks vs
def NkVs (H : Hp) : List NestedKey → List V → Prop
  | [], vs => vs = []
  | k :: ks, vs => ∃ v r, vs = v :: r ∧ NkV H k v ∧ NkVs H ks r
end
mutual
theorem NkV.keeps {H H' : Hp} (ht : ∀ b xs, H b = some (.tup xs) → H' b = some (.tup xs)) : ∀ (k : NestedKey) (v : V), NkV H k v → NkV H' k v
  | .none, _, h => by simpa only [NkV] using h
  | .num i, _, h => by simpa only [NkV] using h
  | .text x, _, h => by simpa only [NkV] using h
  | .tup ks, _, h => by
    simp only [NkV] at h ⊢
    obtain ⟨a, vs, e, ha, hs⟩ := h
    exact ⟨a, vs, e, ht _ _ ha, NkVs.keeps ht ks vs hs⟩
theorem NkVs.keeps {H H' : Hp} (ht : ∀ b xs, H b = some (.tup xs) → H' b = some (.tup xs)) : ∀ (ks : List NestedKey) (vs : List V), NkVs H ks vs → NkVs H' ks vs
  | [], _, h => by simpa only [NkVs] using h
  | k :: ks, _, h => by
    simp only [NkVs] at h ⊢
    obtain ⟨v, r, e, h1, h2⟩ := h
    exact ⟨v, r, e, NkV.keeps ht k v h1, NkVs.keeps ht ks r h2⟩
end
section
variable {P : Program} {w : World} {H : Hp} {h : Heap}
mutual
theorem nk_is (ok : HOk P w H h) : ∀ (k : NestedKey) (v : V) (u : Value), NkV H k v → RelV v u → NestedIs h k u
  | .none, _, _, e, r => by simp only [NkV] at e; subst e; cases r; exact .none
  | .num i, _, _, e, r => by simp only [NkV] at e; subst e; obtain ⟨t, rfl⟩ := r; exact .int i t
  | .text x, _, _, e, r => by simp only [NkV] at e; subst e; obtain ⟨t, rfl⟩ := r; exact .text x t
  | .tup ks, _, _, e, r => by
    simp only [NkV] at e
    obtain ⟨a, vs, rfl, ha, hs⟩ := e
    cases r
    obtain ⟨_, its, rv, o, h1, h2, n, h3⟩ := (show ObjOk P w H h a (.tup vs) from ok a _ ha)
    exact .tup h1 h2 h3 (by simpa using nks_are ok ks vs its hs rv)
theorem nks_are (ok : HOk P w H h) : ∀ (ks : List NestedKey) (vs : List V) (us : List Value), NkVs H ks vs → Vals vs us → NestedAll h ks us
  | [], _, _, e, r => by simp only [NkVs] at e; subst e; cases r; exact .nil
  | k :: ks, _, _, e, r => by
    simp only [NkVs] at e
    obtain ⟨v, rr, rfl, h1, h2⟩ := e
    cases r with
    | cons r1 r2 => exact .cons (nk_is ok k v _ h1 r1) (nks_are ok ks rr _ h2 r2)
end
end

/-- an entry: the key, its tuple's address, the value -/
abbrev NX := NestedKey × Addr × V
def NRel (p : NX) (q : NestedKey × Addr × Value) : Prop := p.1 = q.1 ∧ p.2.1 = q.2.1 ∧ RelV p.2.2 q.2.2
/-- the dict at a -/
def NdO (P : Program) (w : World) (a : Addr) (xs : List NX) : HO := .ext fun h => (a == sysModules) = false ∧ xs.length ≤ sizeLine ∧ ∃ ys, Paired NRel xs ys ∧
  ∃ o es ep, h.get? a = some o ∧ o.ExactDict ∧ o.data = .dict es ep ∧ es.toList = ys.map (entryOfKey (nestedKind P w)) ∧ (ys.map (·.1)).Nodup
structure NdAt (P : Program) (w : World) (H : Hp) (a : Addr) (xs : List NX) : Prop where
  here : H a = some (NdO P w a xs)
  keys : ∀ x ∈ xs, NkV H x.1 (.ref x.2.1) ∧ x.1.depth ≤ 8
def nval (xs : List NX) (k : NestedKey) : Option V := (xs.find? fun x => decide (x.1 = k)).map (·.2.2)
def nput (xs : List NX) (k : NestedKey) (a : Addr) (v : V) : List NX := if (nval xs k).isSome then xs.map fun x => if x.1 = k then (x.1, x.2.1, v) else x else xs ++ [(k, a, v)]

section
variable {P : Program} {w : World} {H H' : Hp} {h h' : Heap} {a : Addr} {xs : List NX}
theorem ndO_ok {ys : List (NestedKey × Addr × Value)} (z : (a == sysModules) = false) (l : xs.length ≤ sizeLine) (r : Paired NRel xs ys) (d : h.DictOfH (nestedKind P w) a ys) : ObjOk P w H h a (NdO P w a xs) := by
  obtain ⟨o, es, ep, e1, e2, e3, e4, e5, e6⟩ := d
  refine ⟨⟨z, l, ys, r, o, es, ep, e1, e2, e3, e4, e6⟩, ⟨o, e1⟩, fun h1 h2 q k => ?_⟩
  obtain ⟨z, l, ys, r, o, es, ep, f1, f⟩ := q
  exact ⟨z, l, ys, r, o, es, ep, k o f1, f⟩
theorem NdAt.get (ok : HOk P w H h) (N : NdAt P w H a xs) : (a == sysModules) = false ∧ xs.length ≤ sizeLine ∧ ∃ ys, Paired NRel xs ys ∧ h.DictOfH (nestedKind P w) a ys := by
  obtain ⟨⟨z, l, ys, r, o, es, ep, e1, e2, e3, e4, e6⟩, _, _⟩ := ok a _ N.here
  refine ⟨z, l, ys, r, o, es, ep, e1, e2, e3, e4, ?_, e6⟩
  have all : ∀ {l : List NX} {m : List (NestedKey × Addr × Value)}, Paired NRel l m → (∀ x ∈ l, NkV H x.1 (.ref x.2.1) ∧ x.1.depth ≤ 8) → ∀ y ∈ m, (nestedKind P w).is h y.1 y.2.1 := by
    intro l m q
    induction q with
    | nil => intro _ y hy; exact nomatch hy
    | @cons p q ps qs hq t ih =>
      intro hk y hy
      rcases List.mem_cons.mp hy with e | hy
      · subst e
        obtain ⟨k1, k2⟩ := hk p List.mem_cons_self
        rw [← hq.1, ← hq.2.1]
        exact ⟨nk_is ok p.1 _ _ k1 rfl, k2⟩
      · exact ih (fun x hx => hk x (List.mem_cons_of_mem _ hx)) y hy
  exact all r N.keys
theorem NRel.val {ys : List (NestedKey × Addr × Value)} (r : Paired NRel xs ys) (k : NestedKey) : RelO (nval xs k) ((atKey ys k).map (·.2)) := by
  induction r with
  | nil => exact True.intro
  | @cons p q ps qs hq t ih =>
    obtain ⟨h1, _, h3⟩ := hq
    by_cases e : p.1 = k
    · have e' : q.1 = k := h1.symm.trans e
      have b : atKey (q :: qs) k = some q.2 := by simp [atKey, List.find?_cons, e']
      have c : nval (p :: ps) k = some p.2.2 := by simp [nval, List.find?_cons, e]
      rw [c, b]; exact h3
    · have e' : ¬ q.1 = k := fun z => e (h1.trans z)
      have b : atKey (q :: qs) k = atKey qs k := by simp [atKey, List.find?_cons, e']
      have c : nval (p :: ps) k = nval ps k := by simp [nval, List.find?_cons, e]
      rw [c, b]; exact ih
theorem NRel.put {ys : List (NestedKey × Addr × Value)} (r : Paired NRel xs ys) (k : NestedKey) (b : Addr) {v : V} {u : Value} (rv : RelV v u) : Paired NRel (nput xs k b v) (storedH ys k b u) := by
  have e : (nval xs k).isSome = (atKey ys k).isSome := by rw [(NRel.val r k).isSome_eq, Option.isSome_map]
  unfold nput storedH
  rw [e]
  by_cases q : (atKey ys k).isSome = true
  · rw [if_pos q, if_pos q]
    clear e q
    induction r with
    | nil => exact .nil
    | @cons p q ps qs hq t ih =>
      rw [List.map_cons, List.map_cons]
      refine .cons ?_ ih
      obtain ⟨h1, h2, h3⟩ := hq
      unfold putAt
      by_cases e : p.1 = k
      · rw [if_pos e, if_pos (h1.symm.trans e)]; exact ⟨h1, h2, rv⟩
      · rw [if_neg e, if_neg (fun z => e (h1.trans z))]; exact ⟨h1, h2, h3⟩
  · rw [if_neg q, if_neg q]
    exact Paired.snoc r ⟨rfl, rfl, rv⟩
theorem nput_len (xs : List NX) (k : NestedKey) (b : Addr) (v : V) : (nput xs k b v).length ≤ xs.length + 1 := by
  unfold nput; split <;> simp
theorem nput_keys {k : NestedKey} {b : Addr} {v : V} (hk : ∀ x ∈ xs, NkV H x.1 (.ref x.2.1) ∧ x.1.depth ≤ 8) (hb : NkV H k (.ref b)) (d : k.depth ≤ 8) : ∀ x ∈ nput xs k b v, NkV H x.1 (.ref x.2.1) ∧ x.1.depth ≤ 8 := by
  intro x hx
  unfold nput at hx
  split at hx
  · obtain ⟨y, hy, e⟩ := List.mem_map.mp hx
    subst e
    split
    · exact hk y hy
    · exact hk y hy
  · rcases List.mem_append.mp hx with hx | hx
    · exact hk x hx
    · cases List.mem_singleton.mp hx; exact ⟨hb, d⟩
theorem NdAt.keep (N : NdAt P w H a xs) (ha : H' a = H a) (ht : ∀ b ys, H b = some (.tup ys) → H' b = some (.tup ys)) : NdAt P w H' a xs :=
  ⟨ha.trans N.here, fun x hx => ⟨NkV.keeps ht _ _ (N.keys x hx).1, (N.keys x hx).2⟩⟩
end

theorem nk_key {P : Program} {w : World} {H : Hp} {h : Heap} {k : NestedKey} {p : Addr} (ok : HOk P w H h) (kp : NkV H k (.ref p)) (d : k.depth ≤ 8) : (nestedKind P w).is h k p := ⟨nk_is ok k _ _ kp rfl, d⟩
section
variable {X : Cx}
/-- y in d -/
def uNIn (P : Program) (w : World) (neg : Bool) : R2 := fun y x H Q => ∃ a p k xs, x = .ref a ∧ y = .ref p ∧ NdAt P w H a xs ∧ NkV H k (.ref p) ∧ k.depth ≤ 8 ∧ Q (.bl (neg != (nval xs k).isSome)) H
theorem NdAt.isSome {P : Program} {w : World} {k : NestedKey} {xs : List NX} {ys : List (NestedKey × Addr × Value)} (r : Paired NRel xs ys) : (atKey ys k).isSome = (nval xs k).isSome := by
  rw [(NRel.val r k).isSome_eq, Option.isSome_map]
theorem ou_nin (hu : X.A.units + 64 < cLine) : OpR X (compareOp .In) (uNIn X.prog X.w false) := by
  intro pins s σ H y x v u Q I ry rx h
  obtain ⟨a, p, k, xs, rfl, rfl, N, kp, d, q⟩ := h
  cases rx; cases ry
  obtain ⟨z, l, ys, r, D⟩ := N.get I.hok
  refine wpAny_in_heap (show X.A.units + 1 + 8 < cLine by omega) (nk_key I.hok kp d) z D ?_
  rw [NdAt.isSome (P := X.prog) (w := X.w) r]
  exact ⟨.bl _, H, I.tok _, rfl, by simpa using q⟩
theorem ou_nnotin (hu : X.A.units + 64 < cLine) : OpR X (compareOp .NotIn) (uNIn X.prog X.w true) := by
  intro pins s σ H y x v u Q I ry rx h
  obtain ⟨a, p, k, xs, rfl, rfl, N, kp, d, q⟩ := h
  cases rx; cases ry
  obtain ⟨z, l, ys, r, D⟩ := N.get I.hok
  refine wpAny_notIn_heap (show X.A.units + 1 + 8 < cLine by omega) (nk_key I.hok kp d) z D ?_
  rw [NdAt.isSome (P := X.prog) (w := X.w) r]
  exact ⟨.bl _, H, I.tok _, rfl, by simpa using q⟩
/-- d[y] -/
def uNIx (P : Program) (w : World) : R2 := fun x y H Q => ∃ a p k xs v, x = .ref a ∧ y = .ref p ∧ NdAt P w H a xs ∧ NkV H k (.ref p) ∧ k.depth ≤ 8 ∧ nval xs k = some v ∧ Q v H
theorem ix_nd (hu : X.A.units + 64 < cLine) : IxR X (uNIx X.prog X.w) := by
  intro value slice pins s σ H x y v u Q I rx ry h hs
  obtain ⟨a, p, k, xs, z, rfl, rfl, N, kp, d, e, q⟩ := h
  cases rx; cases ry
  obtain ⟨_, l, ys, r, D⟩ := N.get I.hok
  obtain ⟨w', hw, rw'⟩ := RelO.some_of (v := z) (o := (atKey ys k).map (·.2)) (by rw [← e]; exact NRel.val r k)
  obtain ⟨q2, hq2, e2⟩ := Option.map_eq_some_iff.mp hw
  refine tail_any D.typeIs PySem.F.slot_dict_getitem.lookup (wpAny_getItem_heap (show X.A.units + 1 + 8 < cLine by omega) (nk_key I.hok kp d) D hq2 ?_) hs
  rw [e2]
  exact ⟨z, H, I.tok _, rw', q⟩
/-- a dict's item by int, text, or a flat tuple -/
def uDIx : R2 := fun x y H Q => ∃ a v, x = .ref a ∧ DGet H a y (some v) ∧ Q v H
theorem ix_d (hu : X.A.units + 64 < cLine) : IxR X uDIx := by
  intro value slice pins s σ H x y v u Q I rx ry h hs
  obtain ⟨a, z, rfl, g, q⟩ := h
  cases rx
  exact tail_any (dict_typeIs I g) PySem.F.slot_dict_getitem.lookup (d_getItem (by omega) I g ry fun w' s' I' rw' => ⟨z, H, I', rw', q⟩) hs
/-- y in d, keys ints, texts, flat tuples -/
def uDIn (neg : Bool) : R2 := fun y x H Q => ∃ a o, x = .ref a ∧ DGet H a y o ∧ Q (.bl (neg != o.isSome)) H
theorem ou_din (hu : X.A.units + 64 < cLine) : OpR X (compareOp .In) (uDIn false) := by
  intro pins s σ H y x v u Q I ry rx h
  obtain ⟨a, o, rfl, g, q⟩ := h
  cases rx
  exact d_in (by omega) I g ry fun s' I' => ⟨.bl _, H, I', rfl, by simpa using q⟩
theorem ou_dnotin (hu : X.A.units + 64 < cLine) : OpR X (compareOp .NotIn) (uDIn true) := by
  intro pins s σ H y x v u Q I ry rx h
  obtain ⟨a, o, rfl, g, q⟩ := h
  cases rx
  exact d_notIn (by omega) I g ry fun s' I' => ⟨.bl _, H, I', rfl, by simpa using q⟩
/-- d[y] = v -/
def uNSet (P : Program) (w : World) : V → V → V → Hp → (Hp → Prop) → Prop := fun o i v H Q => ∃ a p k xs, o = .ref a ∧ i = .ref p ∧ NdAt P w H a xs ∧ NkV H k (.ref p) ∧ k.depth ≤ 8 ∧ xs.length < sizeLine ∧ Q (upd H a (NdO P w a (nput xs k p v)))
theorem set_nd (hu : X.A.units + 64 < cLine) : PSet X (uNSet X.prog X.w) := by
  intro pins s σ H o i v ov iv u Q I ro ri rv h
  obtain ⟨a, p, k, xs, rfl, rfl, N, kp, d, few, q⟩ := h
  cases ro; cases ri
  obtain ⟨z, l, ys, r, D⟩ := N.get I.hok
  have hl : (nput xs k p v).length ≤ sizeLine := Nat.le_trans (nput_len xs k p v) few
  refine wpAny_setItem_heap (hsz := by rw [← Paired.length r]; exact l) (show X.A.units + 1 + 8 < cLine by omega) (nk_key I.hok kp d) D fun h' D' hs => ?_
  have he : ∃ q, h'.get? a = some q := let ⟨q, _, _, hq, _⟩ := D'; ⟨q, hq⟩
  exact ⟨_, d_write I (by rw [N.here]; exact True.intro) hs he (ndO_ok z hl (NRel.put r k p rv) D'), q⟩
def uDSet : V → V → V → Hp → (Hp → Prop) → Prop := fun o i v H Q => ∃ a H', o = .ref a ∧ DPut H a i v H' ∧ Q H'
theorem set_d (hu : X.A.units + 64 < cLine) : PSet X uDSet := by
  intro pins s σ H o i v ov iv u Q I ro ri rv h
  obtain ⟨a, H', rfl, g, q⟩ := h
  cases ro
  exact d_setItem (by omega) I g ri rv fun s' I' => ⟨H', I', q⟩
theorem PSet.or {X : Cx} {t t' : TSet} (h : PSet X t) (h' : PSet X t') : PSet X (fun o i v H Q => t o i v H Q ∨ t' o i v H Q) := by
  intro pins s σ H o i v ov iv u Q I ro ri rv q
  rcases q with q | q
  · exact h pins s σ H o i v ov iv u Q I ro ri rv q
  · exact h' pins s σ H o i v ov iv u Q I ro ri rv q
/-- {} with nested keys to come -/
theorem nd_empty {P : Program} {w : World} {H : Hp} (h : Heap) (hb : sysModules < h.objs.size) : ObjOk P w H (h.push { cls := .type "dict", data := .dict #[] }) h.objs.size (NdO P w h.objs.size []) :=
  ndO_ok (beq_eq_false_iff_ne.mpr (Ne.symm (Nat.ne_of_lt hb))) (Nat.zero_le _) .nil (Heap.DictOfH.new h)
def uDNew (P : Program) (w : World) : TE := fun _ H Q => (∃ kind : Bool, ∀ p, H p = none → Q (.ref p) (upd H p (if kind = true then .dK [] else NdO P w p []))) ∨ (∀ p, H p = none → Q (.ref p) (upd H p (.dT [])))
theorem pe_dnew {pos : Pos} : PE X (.Dict [] [] pos) (uDNew X.prog X.w) := ⟨fun pins s σ H Q I h => by
  rcases h with ⟨kind, q⟩ | q
  · cases kind with
    | true => exact wpAny_Dict_empty ⟨.ref s.heap.objs.size, _, I.laid (a := s.heap.objs.size) (o := .dK []) (t' := s.toks) (fun _ _ q => Heap.get?_push_of_some _ q) (Nat.le_refl _) (dk_empty s.heap I.big), rfl, q _ (I.hok.fresh (Nat.le_refl _))⟩
    | false => exact wpAny_Dict_empty ⟨.ref s.heap.objs.size, _, I.laid (a := s.heap.objs.size) (o := NdO X.prog X.w s.heap.objs.size []) (t' := s.toks) (fun _ _ q => Heap.get?_push_of_some _ q) (Nat.le_refl _) (nd_empty s.heap I.big), rfl, q _ (I.hok.fresh (Nat.le_refl _))⟩
  · exact pe_dnewT.run pins s σ H Q I q⟩
/-- {k: v} with one nested key -/
def uDisp1 (P : Program) (w : World) (tk tv : TE) : TE := fun σ H Q => ∀ p, H p = none → tk σ (upd H p (NdO P w p [])) fun x H1 => tv σ H1 fun y H2 =>
  ∃ k b, x = .ref b ∧ H2 p = some (NdO P w p []) ∧ NkV H2 k (.ref b) ∧ k.depth ≤ 8 ∧ Q (.ref p) (upd H2 p (NdO P w p [(k, b, y)]))
theorem pe_disp1 {ke ve : Expr} {tk tv : TE} {pos : Pos} (hu : X.A.units + 64 < cLine) (hk : PE X ke tk) (hv : PE X ve tv)
    (shape : (evalEachOpt [some ke] X.env).zip ((evalEach [ve] X.env).map fun v => do let x ← v; standAt pos; pure x) = [(eval ke X.env, (do let x ← eval ve X.env; standAt pos; pure x))].map fun p => (some p.1, p.2) := by rfl) :
    PE X (.Dict [some ke] [ve] pos) (uDisp1 X.prog X.w tk tv) := by
  refine ⟨fun pins s σ H Q I h => ?_⟩
  have hn := I.hok.fresh (Nat.le_refl s.heap.objs.size)
  have I1 := I.laid (a := s.heap.objs.size) (o := NdO X.prog X.w s.heap.objs.size []) (h' := s.heap.push { cls := .type "dict", data := .dict #[] }) (t' := s.toks) (fun _ _ q => Heap.get?_push_of_some _ q) (Nat.le_refl _) (nd_empty s.heap I.big)
  have h1 : PPs X pos [some ke] [ve] [(tk, tv)] := pps_cons hk hv pps_nil
  have trees : pairTrees [some ke] [ve] X.env pos = [(eval ke X.env, (do let x ← eval ve X.env; standAt pos; pure x))] := by rfl
  have run := h1.run pins _ σ _ (fun ps H2 => match ps with
    | [(x, y)] => ∃ k b, x = .ref b ∧ H2 s.heap.objs.size = some (NdO X.prog X.w s.heap.objs.size []) ∧ NkV H2 k (.ref b) ∧ k.depth ≤ 8 ∧ Q (.ref s.heap.objs.size) (upd H2 s.heap.objs.size (NdO X.prog X.w s.heap.objs.size [(k, b, y)]))
    | _ => False) I1 (h _ hn)
  rw [trees] at run
  rw [arm_eval_Dict, shape, dictDisplay_pairs _ (by simp) (by simp)]
  refine wpAny_bind (wpAny_standAt (wpAny_bind (wpAny_subDictH (knd := nestedKind X.prog X.w) (show X.A.units + 8 < cLine by omega) (by simp) (thn run fun vs s2 hh => ?_))))
  obtain ⟨ps, H2, I2, rel, q⟩ := hh
  split at q
  · rename_i x y
    obtain ⟨k, b, rfl, e, kb, d, q⟩ := q
    cases rel with
    | @cons p1 q1 ps qs rr t =>
    cases t
    obtain ⟨u1, u2⟩ := q1
    obtain ⟨r1, r2⟩ := rr
    cases (show u1 = Value.ref b from r1)
    obtain ⟨z, l, ys, rr, D⟩ := NdAt.get I2.hok (xs := []) ⟨e, fun _ hx => nomatch hx⟩
    cases rr
    refine ⟨[(k, b, u2)], ⟨rfl, rfl, nk_key I2.hok kb d, True.intro⟩, D, fun h' tk' D' hs => wpAny_pure ⟨.ref s.heap.objs.size, _, ?_, rfl, q⟩⟩
    have he : ∃ q, h'.get? s.heap.objs.size = some q := let ⟨q, _, _, hq, _⟩ := D'; ⟨q, hq⟩
    exact d_write I2 (by rw [e]; exact True.intro) hs he (ndO_ok (ys := [(k, b, u2)]) z (by rw [sizeLine_eq]; exact (by decide : (1 : Nat) ≤ 16777216)) (.cons ⟨rfl, rfl, r2⟩ .nil) D')
  · exact q.elim
end
/-! sorted(t), t a tuple of ints -/
section
open PyProof.Rows
variable {P : Program} {w : World} {A : Around} {E : Value → Shared → Prop} {s : Shared}
theorem collect_tup {l : Addr} {vs : List Value} {Q : List Value → Shared → Prop} (hl : s.heap.IsTuple l vs.toArray) (hsz : vs.length ≤ sizeLine)
    (h : Q vs { s with heap := (s.heap.push (seqObj "list" #[] 0)).update s.heap.objs.size (Obj.mapSeq (· ++ vs.toArray)) }) :
    wpAny (model P w) A (collect (.ref l)) Q E s := by
  obtain ⟨o, ho, hc, n, hd⟩ := id hl
  unfold collect
  refine wpAny_bind (wpAny_runValue (codeAny_builtin entry_proto_collect' ?_))
  show wpAny _ _ (do again (.builtin "list.__iadd__" ⟨[← newList [], .ref l], []⟩)) _ _ s
  refine wpAny_bind (wpAny_newList (wpAny_pure ⟨Code.quiet_builtin _ (by decide +kernel), codeAny_builtin entry_list_iadd' ?_⟩))
  show wpAny _ _ (Builtin.List.listExtendWith (.ref s.heap.objs.size) (.ref l) (.ref s.heap.objs.size)) _ _ { s with heap := s.heap.push (seqObj "list" #[] 0) }
  unfold Builtin.List.listExtendWith
  have ho' : (s.heap.push (seqObj "list" #[] 0)).get? l = some o := Heap.get?_push_of_some _ ho
  refine wpAny_bind (wpAny_typeOf (T := "tuple") ⟨o, ho', hc⟩ ?_)
  have ht : (Value.type "tuple" == Value.type "tuple") = true := by rfl
  rw [if_pos (by rw [ht]; simp)]
  refine wpAny_bind (listItems_at ho' hd ?_)
  refine wpAny_bind (listItems_at (xs := #[]) (n := 0) (Heap.get?_push_size _ rfl) rfl ?_)
  rw [if_neg (by simp)]
  refine wpAny_bind (listUpdate_at (xs := #[]) (n := 0) (Heap.get?_push_size _ rfl) rfl ?_ (Nat.zero_le _) (by show (#[] ++ vs.toArray).size ≤ sizeLine + 1; simp only [Array.size_append, List.size_toArray, List.length_nil]; omega))
  refine wpAny_pure ?_
  show wpAny (model P w) A (do
      let o ← load s.heap.objs.size
      match o.data with
      | .seq xs _ => pure xs.toList
      | _ => unsupported "internal:collect") Q E { s with heap := (s.heap.push (seqObj "list" #[] 0)).update s.heap.objs.size (Obj.mapSeq (· ++ vs.toArray)) }
  refine wpAny_bind (wpAny_load (get?_update_seq (Heap.get?_push_size _ rfl) _) ?_)
  show wpAny _ _ (pure ((#[] : Array Value) ++ vs.toArray).toList) Q E _
  rw [show ((#[] : Array Value) ++ vs.toArray).toList = vs by simp]
  exact wpAny_pure h
theorem sorted_of_tup {l : Addr} {vs : List Value} {ns : List Int} {Q : Value → Shared → Prop} (hl : s.heap.IsTuple l vs.toArray) (hsz : vs.length ≤ sizeLine) (areI : IntsAre vs ns)
    (fin : ∀ (h' : Heap) (p : Addr) (out : Array Value) (c : Nat) (ns' : List Int), (∀ b o, s.heap.get? b = some o → h'.get? b = some o) → s.heap.objs.size ≤ p → h'.get? p = some (seqObj "list" out c) → IntsAre out.toList ns' → ns'.Perm ns → ns'.Pairwise (· ≤ ·) → Q (.ref p) { s with heap := h' }) :
    wpAny (model P w) A (call (.builtin "sorted") [.ref l]) Q E s := by
  refine Calls.call_function_entry kind_sorted plain_sorted entry_sorted (args_sorted1 _) ?_
  unfold Builtin.«sorted»
  refine wpAny_bind (m := checkCount "sorted" 1 1 _) (wpAny_pure ?_)
  refine wpAny_bind (collect_tup hl hsz ?_)
  have k1 : ∀ b o, s.heap.get? b = some o → ((s.heap.push (seqObj "list" #[] 0)).update s.heap.objs.size (Obj.mapSeq (· ++ vs.toArray))).get? b = some o := fun b o q => by
    rw [Heap.get?_update_ne _ _ _ _ (Nat.ne_of_lt (Heap.lt_size q))]
    exact Heap.get?_push_of_some _ q
  have big : s.heap.objs.size ≤ ((s.heap.push (seqObj "list" #[] 0)).update s.heap.objs.size (Obj.mapSeq (· ++ vs.toArray))).objs.size := by
    rw [Heap.size_update, size_push']; omega
  generalize (s.heap.push (seqObj "list" #[] 0)).update s.heap.objs.size (Obj.mapSeq (· ++ vs.toArray)) = h1 at k1 big ⊢
  refine wpAny_bind (wpAny_newList ?_ hsz)
  have at1 : (h1.push (seqObj "list" vs.toArray 0)).get? h1.objs.size = some (seqObj "list" vs.toArray 0) := Heap.get?_push_size _ rfl
  refine wpAny_bind (wpAny_holding (wpAny_call_entry slot_list_sort ⟨_, at1, rfl⟩ entry_list_sort
    (SrtO.list_sort_ord SrtO.swo_int at1 hsz (fun h2 => SrtO.ints_sortable areI h2) fun out z1 z2 => ⟨_, rfl, ?_⟩) (args_list_sort _)))
  obtain ⟨j1, j2, j3⟩ := SrtO.ints_out areI z1 z2
  obtain ⟨c, hc⟩ := sortedHeap_at (vs := vs) (out := out.toArray) at1
  refine wpAny_pure ⟨_, rfl, fin _ h1.objs.size out.toArray c (out.map SrtO.iv) (fun b u e => ?_) big hc (by simpa using j1) j2 j3⟩
  have q := k1 b u e
  have lt := Heap.lt_size q
  rw [sortedHeap_old (Nat.ne_of_lt lt) (by rw [size_push']; exact Nat.lt_succ_of_lt lt)]
  exact Heap.get?_push_of_some _ q
end
section
variable {X : Cx}
def rSortTup (K : PySem.W.Frag) : List V → Hp → VK → Prop := fun xs H Q => ∃ (l : Addr) (ns : List Int), xs = [.ref l] ∧ SqT K H l (ns.map V.int) ∧
  ∀ (ns' : List Int) (p : Addr), ns'.Perm ns → ns'.Pairwise (· ≤ ·) → H p = none → Q (.ref p) (upd H p (.lst (ns'.map V.int)))
theorem cu_sortTup : CallR X (.builtin "sorted") (rSortTup X.K) := by
  intro pins s σ H vs us Q I r h
  obtain ⟨l, ns, rfl, hq, q⟩ := h
  rw [Vals.ref1 r]
  obtain ⟨its, rv, p, hz⟩ := I.tuple hq
  have areI : IntsAre its ns := rv.ints
  refine sorted_of_tup (show s.heap.IsTuple l its.toArray from p) (by rw [← rv.length]; exact hz) areI fun h' p' out c ns' k big got a1 a2 a3 => ?_
  have line : (ns'.map V.int).length ≤ sizeLine := by rw [List.length_map, a2.length_eq]; rw [List.length_map] at hz; exact hz
  have new : H p' = none := I.hok.fresh big
  exact ⟨.ref p', upd H p' (.lst (ns'.map V.int)), I.laid (t' := s.toks) k big ⟨line, out.toList, c, vals_of_ints a1, got⟩, rfl, q ns' p' a2 a3 new⟩
/-- sorted(d), d a dict whose keys are ints, of any size -/
def uSortDict : List V → Hp → VK → Prop := fun xs H Q => ∃ (a : Addr) (kvs : List (L2.Key × V)) (ks : List Int), xs = [.ref a] ∧ H a = some (.dK kvs) ∧ kvs.map (·.1) = ks.map Sum.inl ∧
  ∀ (ys : List Int) (p : Addr), ys.Perm ks → ys.Pairwise (· ≤ ·) → H p = none → Q (.ref p) (upd H p (.lst (ys.map V.int)))
theorem ints_each' : ∀ {us : List Value} {ks : List Int}, us.length = ks.length → (∀ (j : Nat) (v : Value), us[j]? = some v → ∃ (x : Int) (t : _), ks[j]? = some x ∧ v = .int x t) → IntsAre us ks
  | [], [], _, _ => .nil
  | u :: us, k :: ks, hl, h => by
    obtain ⟨x, t, e1, e2⟩ := h 0 u rfl
    have e1' : k = x := Option.some.inj e1
    subst e1'
    subst e2
    refine .cons _ _ (ints_each' (by simpa using hl) fun j v e => ?_)
    obtain ⟨x, t, a, b⟩ := h (j + 1) v (by simpa using e)
    exact ⟨x, t, by simpa using a, b⟩
  | [], _ :: _, hl, _ => by simp at hl
  | _ :: _, [], hl, _ => by simp at hl
theorem cu_sortDict (hcalm : X.calm = true) : CallR X (.builtin "sorted") uSortDict := by
  intro pins s σ H xs us Q I r q
  obtain ⟨a, kvs, ks, rfl, hd, hks, q⟩ := q
  rw [Vals.ref1 r]
  obtain ⟨z, lo, vs, rel, dd⟩ := dk_rd I.hok (.inl hd)
  obtain ⟨ep, hat⟩ := dd.dictAt
  have hkeys : vs.map (·.1) = ks.map Sum.inl := rel.keys.symm.trans hks
  have hl : vs.length = ks.length := by
    have e := congrArg List.length hkeys
    rw [List.length_map, List.length_map] at e
    exact e
  have h16 : vs.length ≤ sizeLine := by rw [← rel.length]; exact z
  refine Calls.call_function_entry kind_sorted plain_sorted entry_sorted (args_sorted1 _) ?_
  unfold Builtin.«sorted»
  refine wpAny_bind (m := checkCount "sorted" 1 1 _) (wpAny_pure ?_)
  refine wpAny_bind (PySem.W.kdu_collect (A := X.A.in1) (PySem.W.kdl_dict (knd := mixKind X.prog X.w) (kvs := vs) (ep := ep) lo) (I.ok.hd hcalm) hat h16 fun h' tk acc hk hacc => ?_)
  have hal : acc.toList.length = ks.length := by rw [Array.length_toList, hacc.1, hl]
  have areI : IntsAre acc.toList ks := ints_each' hal fun j v e => by
    obtain ⟨k, x, e1, e2⟩ := hacc.2 j v (by rw [← Array.getElem?_toList]; exact e)
    have e3 : (vs.map (·.1))[j]? = some k := by rw [List.getElem?_map, e1]; rfl
    rw [hkeys, List.getElem?_map] at e3
    cases e4 : ks[j]? with
    | none => rw [e4] at e3; cases e3
    | some y =>
      rw [e4] at e3
      have e5 : Sum.inl y = k := Option.some.inj e3
      subst e5
      rcases keyIs_shape (show keyIs (Sum.inl y) v = true from e2) with ⟨i, t, ek, ev⟩ | ⟨z, t, ek, ev⟩
      · cases ek
        exact ⟨y, t, rfl, ev⟩
      · cases ek
  have I1 : Inv X pins σ H { s with heap := h', toks := tk } := I.kept hk
  have hal2 : acc.toList.length ≤ sizeLine := by rw [hal, ← hl]; exact h16
  refine wpAny_bind (wpAny_newList ?_ hal2)
  have at1 : (h'.push (seqObj "list" acc.toList.toArray 0)).get? h'.objs.size = some (seqObj "list" acc.toList.toArray 0) := Heap.get?_push_size _ rfl
  show wpAny _ _ _ _ _ { s with heap := h'.push (seqObj "list" acc.toList.toArray 0), toks := tk }
  refine wpAny_bind (wpAny_holding (wpAny_call_entry slot_list_sort ⟨_, at1, rfl⟩ entry_list_sort
    (SrtO.list_sort_ord SrtO.swo_int (s := { s with heap := h'.push (seqObj "list" acc.toList.toArray 0), toks := tk }) at1 hal2 (fun h2 => SrtO.ints_sortable areI h2) fun out z1 z2 => ⟨_, rfl, ?_⟩) (args_list_sort _)))
  obtain ⟨j1, j2, j3⟩ := SrtO.ints_out areI z1 z2
  obtain ⟨c, hc⟩ := sortedHeap_at (vs := acc.toList) (out := out.toArray) at1
  have hlen : ((out.map SrtO.iv).map V.int).length ≤ sizeLine := by
    rw [List.length_map, j2.length_eq, ← hl]; exact h16
  refine wpAny_pure ⟨_, rfl, .ref h'.objs.size, upd H h'.objs.size (.lst ((out.map SrtO.iv).map V.int)), I1.laid (t' := tk) (fun b u e => ?_) (Nat.le_refl _)
    (show ObjOk X.prog X.w _ _ _ (.lst ((out.map SrtO.iv).map V.int)) from ⟨hlen, out, c, vals_of_ints j1, hc⟩), rfl, q _ _ j2 j3 (I1.hok.fresh (Nat.le_refl _))⟩
  have hb : b < h'.objs.size := Heap.lt_size e
  rw [sortedHeap_old (Nat.ne_of_lt hb) (by rw [size_push']; exact Nat.lt_succ_of_lt hb)]
  exact Heap.get?_push_of_some _ e
end
end Hm

/-! F2: rules by syntax alone (each a choice by values), and their readings. -/
namespace Hm
open PySem PySem.Spec PyProof.Rows L2

/-! ### choices by values -/
def bAdd (K : PySem.W.Frag) : R2 := fun x y H Q => rI0 (fun i j => .int (i + j)) x y H Q ∨ rCat x y H Q ∨
  (∃ i j, x = .str i ∧ y = .str j ∧ i.length + j.length ≤ sizeLine ∧ Q (.str (i ++ j)) H) ∨ rCatA K x y H Q
def bSub : R2 := rI0 fun i j => .int (i - j)
def bMul : R2 := fun x y H Q => rI CMul (fun i j => .int (i * j)) x y H Q ∨ rI CMulW (fun i j => .int (i * j)) x y H Q ∨ rRep x y H Q
def bMod : R2 := rI (fun _ j => 0 < j) fun i j => .int (i % j)
def bDiv : R2 := fun x y H Q => rI CDiv (fun i j => .int (i / j)) x y H Q ∨ rI CDivW (fun i j => .int (i / j)) x y H Q
def bPow : R2 := rI CPow fun i j => .int (i ^ j.toNat)
def bAnd : R2 := rI0 fun i j => .int (Builtin.bitAnd i j)
def bXor : R2 := rI0 fun i j => .int (Builtin.bitXor i j)
def cEq (K : PySem.W.Frag) : R2 := fun x y H Q => rEq x y H Q ∨ rEqD K x y H Q
def cNe (K : PySem.W.Frag) : R2 := fun x y H Q => rNe x y H Q ∨ rNeD K x y H Q
def cLt (K : PySem.W.Frag) : R2 := fun x y H Q => rI0 (fun i j => .bl (decide (i < j))) x y H Q ∨
  (∃ i j, x = .str i ∧ y = .str j ∧ Q (.bl (decide (i.cps.toList < j.cps.toList))) H) ∨ rLtT K x y H Q
def cLe : R2 := rI0 fun i j => .bl (decide (i ≤ j))
def cGt : R2 := rI0 fun i j => .bl (decide (j < i))
def cGe : R2 := rI0 fun i j => .bl (decide (j ≤ i))
def cIs : R2 := fun x y H Q => (y = .non ∧ Q (.bl (decide (x = .non))) H) ∨ rIsB x y H Q
def cIsNot : R2 := fun x y H Q => (y = .non ∧ Q (.bl (!decide (x = .non))) H) ∨ rNotB x y H Q
def cIn (P : Program) (w : World) (K : PySem.W.Frag) : R2 := fun x y H Q => rIn K false x y H Q ∨ rInD K x y H Q ∨ rInS x y H Q ∨ uDIn false x y H Q ∨ uNIn P w false x y H Q
def cNotIn (P : Program) (w : World) (K : PySem.W.Frag) : R2 := fun x y H Q => rIn K true x y H Q ∨ rNotInD K x y H Q ∨ rNotInS x y H Q ∨ uDIn true x y H Q ∨ uNIn P w true x y H Q
def bIx (P : Program) (w : World) (K : PySem.W.Frag) : R2 := fun x y H Q => rIxL K x y H Q ∨ rIxT K x y H Q ∨ rIxS x y H Q ∨ uDIx x y H Q ∨ uNIx P w x y H Q
def bSet (P : Program) (w : World) : TSet := fun o i v H Q => rSetL o i v H Q ∨ uDSet o i v H Q ∨ uNSet P w o i v H Q
def kLen (K : PySem.W.Frag) : List V → Hp → VK → Prop := fun xs H Q => (∃ x n, xs = [x] ∧ LenV K x H n ∧ Q (.int n) H) ∨ (∃ a kvs, xs = [V.ref a] ∧ H a = some (.dK kvs) ∧ Q (.int kvs.length) H)
def kList (K : PySem.W.Frag) : List V → Hp → VK → Prop := fun xs H Q => (∃ p ys, xs = [.ref p] ∧ (SqL K H p ys ∨ SqT K H p ys) ∧ ∀ l, H l = none → Q (.ref l) (upd H l (.lst ys))) ∨ rListD xs H Q
def kTuple (K : PySem.W.Frag) : List V → Hp → VK → Prop := fun xs H Q => ∃ p ys, xs = [.ref p] ∧ ((SqL K H p ys ∧ ∀ l, H l = none → Q (.ref l) (upd H l (.tup ys))) ∨ (SqT K H p ys ∧ Q (.ref p) H))
def kSorted (K : PySem.W.Frag) (w : World) : List V → Hp → VK → Prop := fun xs H Q => rSortedI K xs H Q ∨ uSortSet w xs H Q ∨ rSortTup K xs H Q ∨ uSortDict xs H Q
def kMax (K : PySem.W.Frag) : List V → Hp → VK → Prop := fun xs H Q => (∃ i j, xs = [.int i, .int j] ∧ Q (.int (if j > i then j else i)) H) ∨ rMax K xs H Q
def kMin (K : PySem.W.Frag) : List V → Hp → VK → Prop := fun xs H Q => (∃ i j, xs = [.int i, .int j] ∧ Q (.int (if j < i then j else i)) H) ∨ rMin K xs H Q
def kAbs : List V → Hp → VK → Prop := fun xs H Q => ∃ i, xs = [.int i] ∧ Q (.int (if i < 0 then -i else i)) H
def kInt : List V → Hp → VK → Prop := fun xs H Q => (∃ i, xs = [.int i] ∧ Q (.int i) H) ∨ ∃ k, xs = [.bl k] ∧ Q (.int (if k then 1 else 0)) H
def tTru (K : PySem.W.Frag) (ta : TE) : TT := fun σ H Q => ta σ H fun x H' => ∃ k, TruV K x H' k ∧ Q k H'
def bSl (K : PySem.W.Frag) : V → Option Int → Option Int → Hp → VK → Prop := fun x lo hi H Q => rSlL K x lo hi H Q ∨ rSlA K x lo hi H Q
/-- (a, b) = a tuple or a list of that length -/
def gSeq (K : PySem.W.Frag) (n : Nat) (t : TGs) : TG := fun v σ H Q => gTup K n t v σ H Q ∨ gUnl K n t v σ H Q
def kInsert : V → List V → Hp → VK → Prop := fun x vs H Q => ∃ (l : Addr) (xs : List V) (i : Int) (y : V), x = .ref l ∧ vs = [.int i, y] ∧ H l = some (.lst xs) ∧ xs.length < sizeLine ∧ 0 ≤ i ∧ i < 2 ^ 63 ∧
    Q .non (upd H l (.lst (xs.take i.toNat ++ [y] ++ xs.drop i.toNat)))
def kIndex (K : PySem.W.Frag) : V → List V → Hp → VK → Prop := fun x xs H Q => rIndex K x xs H Q ∨ rIndexD K x xs H Q

def rTupIndex (K : PySem.W.Frag) : V → List V → Hp → VK → Prop := fun x xs H Q => ∃ p, ∃ ys : List Str, ∃ z j, x = .ref p ∧ xs = [.str z] ∧ SqT K H p (ys.map V.str) ∧ ys[j]? = some z ∧ (∀ m, m < j → ys[m]? ≠ some z) ∧ Q (.int (j : Nat)) H

section
variable {X : Cx}
theorem hu64 {k : Nat} {A : Around} (hr : Room k A) : A.units + 64 < cLine := hr.units
theorem hu1 {k : Nat} {A : Around} (hr : Room k A) : A.units + 1 < cLine := by have := hr.un; omega
theorem hu65 {k : Nat} {A : Around} (hr : Room k A) : A.units + 65 < cLine := by have := hr.un; omega
theorem o_add : OpR X (binaryOp .Add) (bAdd X.K) := op_add.or (op_cat.or (op_add_str.or op_catA))
theorem o_sub : OpR X (binaryOp .Sub) bSub := op_sub
theorem o_mul : OpR X (binaryOp .Mult) bMul := op_mul.or (op_mulW.or op_rep)
theorem o_mod : OpR X (binaryOp .Mod) bMod := op_mod
theorem o_div : OpR X (binaryOp .FloorDiv) bDiv := op_fdiv.or op_fdivW
theorem o_pow : OpR X (binaryOp .Pow) bPow := op_pow
theorem o_and : OpR X (binaryOp .BitAnd) bAnd := op_and
theorem o_xor : OpR X (binaryOp .BitXor) bXor := op_xor
theorem o_eq (hu : X.A.units + 64 < cLine) : OpR X (compareOp .Eq) (cEq X.K) := op_eq.or (op_eqD hu)
theorem o_ne (hu : X.A.units + 64 < cLine) : OpR X (compareOp .NotEq) (cNe X.K) := op_ne.or (op_neD hu)
theorem o_lt (hu : X.A.units + 64 < cLine) : OpR X (compareOp .Lt) (cLt X.K) := op_lt.or (op_lt_str.or (op_ltT (by omega)))
theorem o_le : OpR X (compareOp .LtE) cLe := op_le
theorem o_gt : OpR X (compareOp .Gt) cGt := op_gt
theorem o_ge : OpR X (compareOp .GtE) cGe := op_ge
theorem o_is : OpR X (compareOp .Is) cIs := op_isN.or op_isBl
theorem o_isnot : OpR X (compareOp .IsNot) cIsNot := op_notN.or op_notBl
theorem o_in (hu : X.A.units + 65 < cLine) : OpR X (compareOp .In) (cIn X.prog X.w X.K) := op_in_seq.or ((op_inD hu).or (op_inS.or ((ou_din (by omega)).or (ou_nin (by omega)))))
theorem o_notin (hu : X.A.units + 65 < cLine) : OpR X (compareOp .NotIn) (cNotIn X.prog X.w X.K) := op_notIn_seq.or ((op_notInD hu).or (op_notInS.or ((ou_dnotin (by omega)).or (ou_nnotin (by omega)))))
theorem x_ix (hu : X.A.units + 64 < cLine) : IxR X (bIx X.prog X.w X.K) := ix_list.or (ix_tup.or (ix_str.or ((ix_d hu).or (ix_nd hu))))
theorem s_set (hu : X.A.units + 64 < cLine) : PSet X (bSet X.prog X.w) := PSet.or set_list (PSet.or (set_d hu) (set_nd hu))
theorem k_len : CallR X (.builtin "len") (kLen X.K) := call_len.or call_lenD
theorem k_list (hc : X.calm = true) : CallR X (.type "list") (kList X.K) := call_list_of.or (call_list_dK hc)
theorem k_tuple : CallR X (.type "tuple") (kTuple X.K) := call_tuple_of
theorem k_sorted (hc : X.calm = true) : CallR X (.builtin "sorted") (kSorted X.K X.w) := cr_sortedI.or ((cu_sortSet hc).or (cu_sortTup.or (cu_sortDict hc)))
theorem k_set (hc : X.calm = true) : CallR X (.type "set") (uSetI X.K X.w) := cu_setI hc
theorem k_max (hc : X.calm = true) : CallR X (.builtin "max") (kMax X.K) := (call_max2 hc).or (cr_max hc)
theorem k_min (hc : X.calm = true) : CallR X (.builtin "min") (kMin X.K) := (call_min2 hc).or (cr_min hc)
theorem k_abs : CallR X (.builtin "abs") kAbs := call_abs
theorem k_int : CallR X (.type "int") kInt := call_int1
theorem k_isi : CallR X (.builtin "isinstance") (rIsi X.K) := call_isi
theorem p_tru {a : Expr} {ta : TE} (ha : PE X a ta) (he : ∀ whole, isTrue a X.env whole = (do let v ← whole; standAt a.pos; holding [v] (truthy v)) := by intro _; rfl) : PT X a (tTru X.K ta) := pt_truth ha he
theorem s_sl : SlR X (bSl X.K) := sl_list.or sl_tupA
theorem g_seq {es : List Expr} {k : Nat} {t : TGs} {n : Nat} {pos : Pos} (hc : X.calm = true) (h : PGs X es t)
    (hn : (assignEach es X.env).length = n := by rfl) (hst : (assignEach es X.env).findIdx? (·.1) = none := by rfl) : PG X (.Tuple es k pos) (gSeq X.K n t) := by
  refine ⟨fun pins s σ H v u Q I r hw => ?_⟩
  rcases hw with hw | hw
  · exact (pg_tup hc h hn hst).run pins s σ H v u Q I r hw
  · exact (pg_unl hc h hn hst).run pins s σ H v u Q I r hw
/-- what a for walks, by its value -/
def kIter (K : PySem.W.Frag) (x : V) (H : Hp) (R : It → Hp → Prop) : Prop := (∃ a, x = .ref a ∧ (∃ xs, SqL K H a xs) ∧ R (Itl K a) H) ∨ (∃ a, x = .ref a ∧ (∃ xs, SqT K H a xs) ∧ R (Itt K a) H) ∨ ∃ z, x = .str z ∧ R (Its z) H
def iAny (K : PySem.W.Frag) (tl : TE) : TI := fun σ H R => tl σ H fun x H1 => kIter K x H1 R
theorem pi_any {tg l : Expr} {tl : TE} (hl : PE X l tl) : PI X tg l (iAny X.K tl) := by
  refine ⟨fun pins s σ H R I h => thn (hl.run pins s σ H _ I h) fun v s1 ⟨x, H1, I1, r1, q1⟩ => ?_⟩
  have own : ∀ {Q : Hp}, Inv X pins σ Q s1 → ∀ b ∈ [s1.heap.objs.size], FpOk X pins Q b := fun J b hb => by
    cases List.mem_singleton.mp hb
    exact J.fpOk (Nat.le_refl _) (J.hok.fresh (Nat.le_refl _))
  rcases q1 with ⟨a, rfl, ⟨xs, hq⟩, q⟩ | ⟨a, rfl, ⟨xs, hq⟩, q⟩ | ⟨z, rfl, q⟩
  · cases r1
    obtain ⟨its, rv, p, hz⟩ := I1.list hq
    exact wpAny_pyIter_list p.isList ⟨_, [s1.heap.objs.size], _, _, H1, rfl, I1.kept (t' := s1.toks) fun b o e => Heap.get?_push_of_some _ e, turn_list a _, ⟨_, Heap.get?_push_size _ rfl, rfl, rfl⟩, own I1, q⟩
  · cases r1
    obtain ⟨its, rv, p, hz⟩ := I1.tuple hq
    exact wpAny_pyIter_tuple (show s1.heap.IsTuple a its.toArray from p) ⟨_, [s1.heap.objs.size], _, _, H1, rfl, I1.kept (t' := s1.toks) fun b o e => Heap.get?_push_of_some _ e, turn_tuple a _, ⟨_, Heap.get?_push_size _ rfl, rfl, rfl⟩, own I1, q⟩
  · obtain ⟨t, rfl⟩ := r1
    cases ha : z.cps.all (· < 128)
    · exact wpAny_pyIter_wide ha (pi_one (tk := s1.toks) I1 _ (turn_str _ z t "str_iterator" (.inr rfl)) ⟨_, Heap.get?_push_size _ rfl, rfl, rfl⟩ q)
    · exact wpAny_pyIter_ascii ha (pi_one (tk := s1.toks) I1 _ (turn_str _ z t "str_ascii_iterator" (.inl rfl)) ⟨_, Heap.get?_push_size _ rfl, rfl, rfl⟩ q)
theorem mt_kindex (hu : X.A.units + 65 < cLine) : MtR X "list.index" (kIndex X.K) := mt_index.or (mt_indexD hu)
end
/-! ### defs, methods, classes of the text, by their promises -/
structure Cal (P : Program) (w : World) (K : PySem.W.Frag) (mg : Str → Option Value) (base : Heap) (CX : CXT) (k : Nat) (x : Str) (sp : Sp) : Prop where
  ex : ∃ (f : Addr) (fd : FuncData) (ps : List Str), FnOk P w K mg base CX k f fd ps sp ∧ mg x = some (.ref f) ∧ PySem.W.keepIn K (.ref f) = true ∧ Binds K fd ps []
structure Met (P : Program) (w : World) (K : PySem.W.Frag) (mg : Str → Option Value) (base : Heap) (CX : CXT) (k : Nat) (C : Addr) (m : Str) (sp : Sp) : Prop where
  ex : ∃ (f : Addr) (fd : FuncData) (ps : List Str), Cls K C ∧ Meth K C m f ∧ FnOk P w K mg base CX k f fd ps sp ∧ Binds K fd ps []
structure Mak (P : Program) (w : World) (K : PySem.W.Frag) (mg : Str → Option Value) (base : Heap) (CX : CXT) (k : Nat) (x : Str) (C : Addr) (sp : Sp) : Prop where
  ex : ∃ (f : Addr) (fd : FuncData) (ps : List Str), Mk K C f ∧ FnOk P w K mg base CX k f fd ps sp ∧ mg x = some (.ref C) ∧ Binds K fd ps []
section
variable {X : Cx} {CX : CXT} {E : XK} {k j : Nat} {C : Addr} {x m : Str} {sp : Sp} {p pos apos : Pos} {e o : Expr} {es : List Expr} {ta : TE} {t : TA}
theorem e_call (c : Cal X.prog X.w X.K X.mg X.base CX k x sp) (hr : Room j X.A) (hk : k ≤ j) (hx : Passes CX X E) (hg : Gl X x) (ha : PA X (e :: es) t)
    (hdb : (x == ("__debug__" : Str)) = false := by decide) (he : starEach (e :: es) X.env = (false, eval e X.env) :: starEach es X.env := by rfl) (hpl : (backTo pos (starEach es X.env)).any (·.1) = false := by rfl) :
    PE X (.Call (.Name x p) (e :: es) [] pos) (tCall sp [] E t) := by
  obtain ⟨f, fd, ps, F, hm, kp, b⟩ := c.ex
  exact pe_call F (hr.mono hk) hg hm kp b .nil hx ha hdb he hpl
theorem e_call0 (c : Cal X.prog X.w X.K X.mg X.base CX k x sp) (hr : Room j X.A) (hk : k ≤ j) (hx : Passes CX X E) (hg : Gl X x) (hdb : (x == ("__debug__" : Str)) = false := by decide) :
    PE X (.Call (.Name x p) [] [] pos) (tCall sp [] E tNil) := by
  obtain ⟨f, fd, ps, F, hm, kp, b⟩ := c.ex
  exact pe_call0 F (hr.mono hk) hg hm kp b .nil hx hdb
theorem e_make (c : Mak X.prog X.w X.K X.mg X.base CX k x C sp) (hr : Room j X.A) (hk : k + 1 ≤ j) (hx : Passes CX X E) (hg : Gl X x) (ha : PA X (e :: es) t)
    (hdb : (x == ("__debug__" : Str)) = false := by decide) (he : starEach (e :: es) X.env = (false, eval e X.env) :: starEach es X.env := by rfl) (hpl : (backTo pos (starEach es X.env)).any (·.1) = false := by rfl) :
    PE X (.Call (.Name x p) (e :: es) [] pos) (tMake C sp [] E t) := by
  obtain ⟨f, fd, ps, M, F, hm, b⟩ := c.ex
  exact pe_make M F (hr.mono hk) hg hm b .nil hx ha hdb he hpl
theorem e_make0 (c : Mak X.prog X.w X.K X.mg X.base CX k x C sp) (hr : Room j X.A) (hk : k + 1 ≤ j) (hx : Passes CX X E) (hg : Gl X x) (hdb : (x == ("__debug__" : Str)) = false := by decide) :
    PE X (.Call (.Name x p) [] [] pos) (tMake C sp [] E tNil) := by
  obtain ⟨f, fd, ps, M, F, hm, b⟩ := c.ex
  exact pe_make0 M F (hr.mono hk) hg hm b .nil hx hdb
theorem e_meth {pl : Sem Bool} (c : Met X.prog X.w X.K X.mg X.base CX k C m sp) (hr : Room j X.A) (hk : k ≤ j) (hx : Passes CX X E) (he : PE X o ta) (ha : PA X (e :: es) t)
    (h1 : starEach (e :: es) X.env = (false, eval e X.env) :: starEach es X.env := by rfl) (h2 : (backTo pos (starEach es X.env)).any (·.1) = false := by rfl)
    (h3 : eval (.Call (.Attribute o m apos) (e :: es) [] pos) X.env = (do let ov ← eval o X.env; standAt apos.atName; let (f, first) ← holding [ov] (getMethod ov m pl)
                                                                          callWith pos f first (backTo pos (starEach (e :: es) X.env)) (backToKw pos (keywordEach [] X.env))) := by rfl) :
    PE X (.Call (.Attribute o m apos) (e :: es) [] pos) (tMeth C m sp [] E ta t) := by
  obtain ⟨f, fd, ps, hc, hm, F, b⟩ := c.ex
  exact pe_meth (pl := pl) he hc hm F (hr.mono hk) b .nil hx ha h1 h2 h3
theorem e_meth0 {pl : Sem Bool} (c : Met X.prog X.w X.K X.mg X.base CX k C m sp) (hr : Room j X.A) (hk : k ≤ j) (hx : Passes CX X E) (he : PE X o ta)
    (h3 : eval (.Call (.Attribute o m apos) [] [] pos) X.env = (do let ov ← eval o X.env; standAt apos.atName; let (f, first) ← holding [ov] (getMethod ov m pl)
                                                                   callWith pos f first (backTo pos (starEach [] X.env)) (backToKw pos (keywordEach [] X.env))) := by rfl) :
    PE X (.Call (.Attribute o m apos) [] [] pos) (tMeth C m sp [] E ta tNil) := by
  obtain ⟨f, fd, ps, hc, hm, F, b⟩ := c.ex
  exact pe_meth0 (pl := pl) he hc hm F (hr.mono hk) b .nil hx h3
end
end Hm

/-! F3: readings, one lemma a head. -/
namespace Hm
open PySem L2

/-! ### heaps -/
/-- what stood stands, but for the cells of M -/
def Keep (M : Addr → Prop) (H H' : Hp) : Prop := ∀ a o, ¬ M a → H a = some o → H' a = some o
abbrev Nil : Addr → Prop := fun _ => False
theorem Keep.refl {M : Addr → Prop} {H : Hp} : Keep M H H := fun _ _ _ h => h
theorem Keep.trans {M : Addr → Prop} {H H1 H2 : Hp} (a : Keep M H H1) (b : Keep M H1 H2) : Keep M H H2 := fun c o n h => b c o n (a c o n h)
theorem Keep.mono {M N : Addr → Prop} {H H' : Hp} (k : Keep M H H') (s : ∀ a, M a → N a) : Keep N H H' := fun a o n h => k a o (fun z => n (s a z)) h
theorem Keep.weak {M : Addr → Prop} {H H' : Hp} (k : Keep Nil H H') : Keep M H H' := k.mono fun _ z => z.elim
theorem Keep.new {M : Addr → Prop} {H H' : Hp} {p : Addr} {o : HO} (k : Keep M H H') (hp : H' p = none) : Keep M H (upd H' p o) := fun a u n h => by
  rw [upd_ne (ne_of_none (k a u n h) hp)]; exact k a u n h
theorem Keep.alloc {M : Addr → Prop} {H : Hp} {p : Addr} {o : HO} (hp : H p = none) : Keep M H (upd H p o) := Keep.refl.new hp
theorem Keep.set {M : Addr → Prop} {H H' : Hp} {p : Addr} {o : HO} (k : Keep M H H') (hp : M p) : Keep M H (upd H' p o) := fun a u n h => by
  rw [upd_ne (fun z => n (by rw [z]; exact hp))]; exact k a u n h
/-- a cell that was new at the start may be forgotten -/
theorem Keep.hide {M : Addr → Prop} {H H' : Hp} {l : Addr} (k : Keep (fun a => M a ∨ a = l) H H') (hl : H l = none) : Keep M H H' := fun a o n h =>
  k a o (fun z => z.elim n fun e => by rw [e, hl] at h; cases h) h
theorem Keep.setN {M : Addr → Prop} {H H' : Hp} {p : Addr} {o : HO} (k : Keep M H H') (hp : H p = none) : Keep M H (upd H' p o) := fun a u n h => by
  rw [upd_ne (fun z => by rw [z, hp] at h; cases h)]; exact k a u n h
theorem Keep.get {M : Addr → Prop} {H H' : Hp} {a : Addr} {o : HO} (k : Keep M H H') (n : ¬ M a) (h : H a = some o) : H' a = some o := k a o n h
theorem is_upd {H : Hp} {p a : Addr} {o : HO} {v : Option HO} (e : upd H p o a = v) : upd H p o a = v := e
theorem upd_at {H : Hp} {p : Addr} {o o' : HO} (e : o = o') : upd H p o p = some o' := by rw [upd_same, e]
theorem get_new {H : Hp} {a p : Addr} {o u : HO} (hp : H p = none) (h : H a = some o) : upd H p u a = some o := by rw [upd_ne (ne_of_none h hp)]; exact h
theorem get_set {H : Hp} {a p : Addr} {o u : HO} (n : a ≠ p) (h : H a = some o) : upd H p u a = some o := by rw [upd_ne n]; exact h
theorem get_setK {H : Hp} {a p : Addr} {o u u0 : HO} (hp : H p = some u0) (h : H a = some o) (d : o ≠ u0) : upd H p u a = some o := get_set (ne_of h hp d) h
theorem ne_old {H : Hp} {a p : Addr} {o : HO} (hp : H p = none) (h : H a = some o) : a ≠ p := ne_of_none h hp
theorem ne_new {H : Hp} {a p : Addr} {o : HO} (hp : H p = none) (h : H a = some o) : p ≠ a := (ne_of_none h hp).symm
theorem none_of_upd {H : Hp} {a p : Addr} {o : HO} (h : upd H p o a = none) : H a = none := by
  unfold upd at h; split at h
  · cases h
  · exact h
theorem none_ne {H : Hp} {a p : Addr} {o : HO} (h : upd H p o a = none) : a ≠ p := fun z => by rw [z, upd_same] at h; cases h
theorem none_ne' {H : Hp} {a p : Addr} {o : HO} (h : upd H p o a = none) : p ≠ a := (none_ne h).symm

theorem seq_keep {K : PySem.W.Frag} {H H' : Hp} {a : Addr} {xs : List V} (k : Keep Nil H H') (h : SqL K H a xs) : SqL K H' a xs := Same.seq (fun b o e => k b o (fun z => z) e) h
theorem seq_new {K : PySem.W.Frag} {H : Hp} {a p : Addr} {o : HO} {xs : List V} (hp : H p = none) (h : SqL K H a xs) : SqL K (upd H p o) a xs := seq_keep (Keep.alloc hp) h
theorem keep_none {H H' : Hp} {p : Addr} (k : Keep Nil H H') (h : H' p = none) : H p = none := by
  cases e : H p with
  | none => rfl
  | some o => rw [k p o (fun z => z) e] at h; cases h
section
variable {P : Program} {w : World} {K : PySem.W.Frag} {σ : St} {H : Hp} {Q : VK} {D : Ends} {C : Addr} {E : XK} {sp : Sp} {f m : Str}
variable {t u tb : TS} {te ta td tv : TE} {tt : TT} {tr : TA} {g : TG} {i j : Nat} {v x y : V} {r : R2}

/-! ### constants of the text -/
theorem gint {mg : Str → Option Value} {x : Str} {i : Int} (h : ∃ t, mg x = some (.int i t)) : ∃ u, mg x = some u ∧ RelV (.int i) u := by
  obtain ⟨t, e⟩ := h
  exact ⟨_, e, t, rfl⟩
theorem gstr {mg : Str → Option Value} {x z : Str} (h : ∃ t, mg x = some (.str z t)) : ∃ u, mg x = some u ∧ RelV (.str z) u := by
  obtain ⟨t, e⟩ := h
  exact ⟨_, e, t, rfl⟩
/-! ### statements -/
theorem absQ {S : Hp → Prop} {v : V} (h : S H) (k : ∀ HT, S HT → Q v HT) : Q v H := k H h
theorem absS {S : Hp → Prop} (h : S H) (k : ∀ HT, S HT → t D σ HT) : t D σ H := k H h

theorem absT {S : Hp → Prop} {R : Bool → Hp → Prop} (h : S H) (k : ∀ HT, S HT → tt σ HT R) : tt σ H R := k H h
theorem absE {S : Hp → Prop} (h : S H) (k : ∀ HT, S HT → te σ HT Q) : te σ H Q := k H h
theorem r_seq (h : t { D with nx := u D } σ H) : tSeq t u D σ H := h
theorem r_nx {n b c : L2.St → Hp → Prop} {rt : VK} (h : n σ H) : (Ends.mk n rt b c).nx σ H := h
theorem r_rt {n b c : L2.St → Hp → Prop} {rt : VK} (h : rt v H) : (Ends.mk n rt b c).rt v H := h
theorem r_bk {n b c : L2.St → Hp → Prop} {rt : VK} (h : b σ H) : (Ends.mk n rt b c).bk σ H := h
theorem r_ct {n b c : L2.St → Hp → Prop} {rt : VK} (h : c σ H) : (Ends.mk n rt b c).ct σ H := h
theorem r_next (h : D.nx σ H) : tNext D σ H := h
theorem r_asg (h : te σ H fun x H1 => g x σ H1 D.nx) : tAsg te g D σ H := h
theorem r_gname {Q : St → Hp → Prop} (h : Q (σ.set i (some v)) H) : gName i v σ H Q := h
theorem r_drop (h : te σ H fun _ H1 => D.nx σ H1) : tDrop te D σ H := h
theorem r_ret (h : te σ H D.rt) : tRet te D σ H := h
theorem r_if (h : tt σ H fun b H1 => if b = true then t D σ H1 else u D σ H1) : tIfS tt t u D σ H := h
theorem r_brk (h : D.bk σ H) : tBreak D σ H := h
theorem r_cont (h : D.ct σ H) : tCont D σ H := h
theorem r_par {tas : TA} (h : tas σ H fun vs H1 => ∃ v w, vs = [v, w] ∧ D.nx ((σ.set i (some v)).set j (some w)) H1) : tPar i j tas D σ H := h
theorem r_par2 {v w : V} {R : V → V → Prop} (h : R v w) : ∃ v' w', [v, w] = [v', w'] ∧ R v' w' := ⟨v, w, rfl, h⟩
/-! ### tests -/
def kB (x : V) (R : Bool → Prop) : Prop := ∃ k, x = .bl k ∧ R k
theorem r_test {R : Bool → Hp → Prop} (h : te σ H fun x H' => kB x fun k => R k H') : tTest te σ H R := h
theorem r_kB {b : Bool} {R : Bool → Prop} (h : R b) : kB (.bl b) R := ⟨b, rfl, h⟩
theorem r_and {t1 t2 : TT} {R : Bool → Hp → Prop} (h : t1 σ H fun c H1 => if c = true then t2 σ H1 R else R false H1) : tAnd t1 t2 σ H R := h
theorem r_or {t1 t2 : TT} {R : Bool → Hp → Prop} (h : t1 σ H fun c H1 => if c = true then R true H1 else t2 σ H1 R) : tOr t1 t2 σ H R := h
theorem r_not {t1 : TT} {R : Bool → Hp → Prop} (h : t1 σ H fun c H1 => R (!c) H1) : tNot t1 σ H R := h
theorem r_tru {R : Bool → Hp → Prop} (h : te σ H fun x H' => ∃ k, TruV K x H' k ∧ R k H') : tTru K te σ H R := h
theorem r_tru_bl {b : Bool} {R : Bool → Prop} (h : R b) : ∃ k, TruV K (.bl b) H k ∧ R k := ⟨b, rfl, h⟩
theorem r_ite_tt {A B : Prop} (h : A) : if true = true then A else B := by rw [if_pos rfl]; exact h
theorem r_ite_ff {A B : Prop} (h : B) : if false = true then A else B := by rw [if_neg Bool.false_ne_true]; exact h
theorem r_ite {p A B : Prop} [Decidable p] (h1 : p → A) (h2 : ¬ p → B) : if decide p = true then A else B := by
  by_cases h : p
  · rw [if_pos (decide_eq_true h)]; exact h1 h
  · rw [if_neg (by simp [h])]; exact h2 h
theorem r_iteT' {p A B : Prop} [Decidable p] (c : p) (h : A) : if decide p = true then A else B := by rw [if_pos (decide_eq_true c)]; exact h
theorem r_iteF' {p A B : Prop} [Decidable p] (c : ¬ p) (h : B) : if decide p = true then A else B := by rw [if_neg (by simp [c])]; exact h
theorem r_iteNT' {p A B : Prop} [Decidable p] (c : ¬ p) (h : A) : if (!decide p) = true then A else B := by rw [if_pos (by simp [c])]; exact h
theorem r_iteNF' {p A B : Prop} [Decidable p] (c : p) (h : B) : if (!decide p) = true then A else B := by rw [if_neg (by simp [c])]; exact h
theorem r_ite_nt {A B : Prop} (h : B) : if (!true) = true then A else B := by rw [if_neg (by simp)]; exact h
theorem r_ite_nf {A B : Prop} (h : A) : if (!false) = true then A else B := by rw [if_pos (by simp)]; exact h
theorem r_iteN {p A B : Prop} [Decidable p] (h1 : ¬ p → A) (h2 : p → B) : if (!decide p) = true then A else B := by
  by_cases h : p
  · rw [if_neg (by simp [h])]; exact h2 h
  · rw [if_pos (by simp [h])]; exact h1 h
theorem r_iteB {b : Bool} {A B : Prop} (h1 : b = true → A) (h2 : b = false → B) : if b = true then A else B := by
  cases b
  · exact r_ite_ff (h2 rfl)
  · exact r_ite_tt (h1 rfl)
theorem r_iteNB {b : Bool} {A B : Prop} (h1 : b = false → A) (h2 : b = true → B) : if (!b) = true then A else B := by
  cases b
  · exact r_ite_tt (h1 rfl)
  · exact r_ite_ff (h2 rfl)
theorem r_ite_if {b : Bool} {A B : Prop} (hb : b = true) (h : A) : if b = true then A else B := by rw [if_pos hb]; exact h
theorem r_ite_else {b : Bool} {A B : Prop} (hb : b = false) (h : B) : if b = true then A else B := by rw [hb, if_neg Bool.false_ne_true]; exact h
/-! ### values -/
theorem r_var (h : σ[i]? = some (some v)) (k : Q v H) : tVar i σ H Q := ⟨v, h, k⟩
theorem r_c (k : Q v H) : tC v σ H Q := k
theorem r_op (k : ta σ H fun x H1 => te σ H1 fun y H2 => r x y H2 Q) : tOp r ta te σ H Q := k
theorem r_un {q : V → Hp → VK → Prop} (k : ta σ H fun x H1 => q x H1 Q) : tUn q ta σ H Q := k
theorem r_rU {gI : Int → V} {z : Int} (k : Q (gI z) H) : rU gI (.int z) H Q := ⟨z, rfl, k⟩
theorem r_nil {R : List V → Hp → Prop} (k : R [] H) : tNil σ H R := k
theorem r_cons {R : List V → Hp → Prop} (k : te σ H fun x H1 => tr σ H1 fun xs H2 => R (x :: xs) H2) : tCons te tr σ H R := k
theorem r_cb {q : List V → Hp → VK → Prop} (k : tr σ H fun vs H1 => q vs H1 Q) : tCB q tr σ H Q := k
theorem r_call (k : tr σ H fun vs H1 => sp vs H1 Q E) : tCall sp [] E tr σ H Q := by
  have e : (fun vs H1 => sp (vs ++ []) H1 Q E) = fun vs H1 => sp vs H1 Q E := by funext vs H1; rw [List.append_nil]
  show tr σ H fun vs H1 => sp (vs ++ []) H1 Q E
  rw [e]; exact k
def kMeth (C : Addr) (m : Str) (sp : Sp) (E : XK) (tr : TA) (σ : St) (x : V) (H : Hp) (Q : VK) : Prop := ∃ a dx fs, x = .ref a ∧ H a = some (.ins C dx fs) ∧ fs.lookup m = none ∧ tr σ H fun vs H2 => sp (x :: vs) H2 Q E
theorem r_meth (k : ta σ H fun x H1 => kMeth C m sp E tr σ x H1 Q) : tMeth C m sp [] E ta tr σ H Q := by
  have e : ∀ x, (fun vs H1 => sp (x :: (vs ++ [])) H1 Q E) = fun vs H1 => sp (x :: vs) H1 Q E := fun x => by funext vs H1; rw [List.append_nil]
  show ta σ H fun x H1 => ∃ a dx fs, x = .ref a ∧ H1 a = some (.ins C dx fs) ∧ fs.lookup m = none ∧ tr σ H1 fun vs H2 => sp (x :: (vs ++ [])) H2 Q E
  simp only [e]; exact k
theorem r_kmeth {a dx : Addr} {fs : List (Str × V)} (h : H a = some (.ins C dx fs)) (l : fs.lookup m = none) (k : tr σ H fun vs H2 => sp (.ref a :: vs) H2 Q E) : kMeth C m sp E tr σ (.ref a) H Q := ⟨a, dx, fs, rfl, h, l, k⟩
theorem r_make (k : tr σ H fun vs H1 => ∀ x dx, H1 x = none → H1 dx = none → dx ≠ x → sp (.ref x :: vs) (upd (upd H1 dx (.own x)) x (.ins C dx [])) (fun v H2 => v = .non ∧ Q (.ref x) H2) E) : tMake C sp [] E tr σ H Q := by
  have e : ∀ (x : Addr) (S : VK), (fun vs H1 => sp (.ref x :: (vs ++ [])) H1 S E) = fun vs H1 => sp (.ref x :: vs) H1 S E := fun x S => by funext vs H1; rw [List.append_nil]
  show tr σ H fun vs H1 => ∀ x dx, H1 x = none → H1 dx = none → dx ≠ x → sp (.ref x :: (vs ++ [])) (upd (upd H1 dx (.own x)) x (.ins C dx [])) (fun v H2 => v = .non ∧ Q (.ref x) H2) E
  simp only [List.append_nil]; exact k
def kFld (K : PySem.W.Frag) (f : Str) (x : V) (H : Hp) (Q : VK) : Prop := ∃ a C dx fs v, x = .ref a ∧ H a = some (.ins C dx fs) ∧ Cls K C ∧ NoAttr K C f ∧ fs.lookup f = some v ∧ Q v H
theorem r_fld (k : ta σ H fun x H1 => kFld K f x H1 Q) : tFld K ta f σ H Q := k
theorem r_kfld {a dx : Addr} {fs : List (Str × V)} (h : H a = some (.ins C dx fs)) (c : Cls K C) (n : NoAttr K C f) (l : fs.lookup f = some v) (k : Q v H) : kFld K f (.ref a) H Q := ⟨a, C, dx, fs, v, rfl, h, c, n, l, k⟩
def kSFld (K : PySem.W.Frag) (f : Str) (x y : V) (H : Hp) (R : Hp → Prop) : Prop := ∃ a C dx fs, x = .ref a ∧ H a = some (.ins C dx fs) ∧ Cls K C ∧ NoAttr K C f ∧ fs.length < 1000 ∧ R (upd H a (.ins C dx (putF f y fs)))
theorem r_sfld (k : tv σ H fun y H1 => ta σ H1 fun x H2 => kSFld K f x y H2 fun H3 => D.nx σ H3) : sFld K ta tv f D σ H := k
theorem r_ksfld {a dx : Addr} {fs : List (Str × V)} {R : Hp → Prop} (h : H a = some (.ins C dx fs)) (c : Cls K C) (n : NoAttr K C f) (l : fs.length < 1000) (k : R (upd H a (.ins C dx (putF f y fs)))) : kSFld K f (.ref a) y H R := ⟨a, C, dx, fs, rfl, h, c, n, l, k⟩
def kTup (xs : List V) (H : Hp) (Q : VK) : Prop := xs.length ≤ sizeLine ∧ ∀ p, H p = none → Q (.ref p) (upd H p (.tup xs))
def kLst (xs : List V) (H : Hp) (Q : VK) : Prop := xs.length ≤ sizeLine ∧ ∀ p, H p = none → Q (.ref p) (upd H p (.lst xs))
theorem r_tup (k : tr σ H fun xs H1 => kTup xs H1 Q) : tTup tr σ H Q := k
theorem r_lst (k : tr σ H fun xs H1 => kLst xs H1 Q) : tLst tr σ H Q := k
theorem few {n : Nat} (h : n ≤ 100) : n ≤ sizeLine := by rw [sizeLine_eq]; omega
theorem few1 {n : Nat} (h : n ≤ 100000) : n < sizeLine := by rw [sizeLine_eq]; omega
theorem few2 {n : Nat} (h : n ≤ 100000) : n ≤ sizeLine := by rw [sizeLine_eq]; omega
theorem r_ktup {xs : List V} (l : xs.length ≤ 100) (k : ∀ p, H p = none → Q (.ref p) (upd H p (.tup xs))) : kTup xs H Q := ⟨few l, k⟩
theorem r_klst {xs : List V} (l : xs.length ≤ 100) (k : ∀ p, H p = none → Q (.ref p) (upd H p (.lst xs))) : kLst xs H Q := ⟨few l, k⟩
theorem r_sl {q : V → Option Int → Option Int → Hp → VK → Prop} {tl th : TO} (k : te σ H fun x H1 => tl σ H1 fun l H2 => th σ H2 fun u H3 => q x l u H3 Q) : tSl q te tl th σ H Q := k
theorem r_nopart {R : Option Int → Hp → Prop} (k : R none H) : tNoPart σ H R := k
def kI (x : V) (R : Int → Prop) : Prop := ∃ i, x = .int i ∧ R i
theorem r_part {R : Option Int → Hp → Prop} (k : te σ H fun x H1 => kI x fun i => R (some i) H1) : tPart te σ H R := k
theorem r_kI {z : Int} {R : Int → Prop} (h : R z) : kI (.int z) R := ⟨z, rfl, h⟩
def kBM (K : PySem.W.Frag) (T : String) (q : V → List V → Hp → VK → Prop) (tr : TA) (σ : St) (x : V) (H : Hp) (Q : VK) : Prop := tyV K T x H ∧ tr σ H fun xs H2 => q x xs H2 Q
theorem r_bm {T : String} {q : V → List V → Hp → VK → Prop} (k : ta σ H fun x H1 => kBM K T q tr σ x H1 Q) : tBM K T q ta tr σ H Q := k
theorem r_bm0 {T : String} {q : V → List V → Hp → VK → Prop} (k : ta σ H fun x H1 => kBM K T q tNil σ x H1 Q) : tBM0 K T q ta σ H Q := k
theorem r_kbm_l {q : V → List V → Hp → VK → Prop} {l : Addr} {xs : List V} (h : H l = some (.lst xs)) (k : tr σ H fun xs H2 => q (.ref l) xs H2 Q) : kBM K "list" q tr σ (.ref l) H Q := ⟨.inl ⟨rfl, xs, SqL.of h⟩, k⟩
theorem r_revL {l : Addr} {xs : List V} (k : te σ H fun x H1 => x = .ref l ∧ H1 l = some (.lst xs) ∧ ∀ p, H1 p = none → Q (.ref p) (upd H1 p (.lst xs.reverse))) (mono : ∀ S S' : VK, (∀ x H, S x H → S' x H) → te σ H S → te σ H S') : tRevL K te σ H Q :=
  mono _ _ (fun x H1 h => ⟨l, xs, h.1, SqL.of h.2.1, h.2.2⟩) k
def kRev (K : PySem.W.Frag) (x : V) (H : Hp) (Q : VK) : Prop := ∃ a xs, x = .ref a ∧ SqL K H a xs ∧ ∀ p, H p = none → Q (.ref p) (upd H p (.lst xs.reverse))
theorem r_rev (k : te σ H fun x H1 => kRev K x H1 Q) : tRevL K te σ H Q := k
theorem r_krev {l : Addr} {xs : List V} (h : H l = some (.lst xs)) (k : ∀ p, H p = none → Q (.ref p) (upd H p (.lst xs.reverse))) : kRev K (.ref l) H Q := ⟨l, xs, rfl, SqL.of h, k⟩
def kNotV (x : V) (R : Bool → Prop) : Prop := kB x R
theorem r_notV (k : ta σ H fun x H1 => kB x fun b => Q (.bl (!b)) H1) : tNotV ta σ H Q := k
theorem r_andV (k : ta σ H fun x H1 => kB x fun b => if b = true then te σ H1 Q else Q (.bl false) H1) : tAndV ta te σ H Q := k
theorem r_orV (k : ta σ H fun x H1 => kB x fun b => if b = true then Q (.bl true) H1 else te σ H1 Q) : tOrV ta te σ H Q := k
theorem r_chain {r' : R2} {tc : TE} (k : ta σ H fun x H1 => te σ H1 fun y H2 => r x y H2 fun z H3 => kB z fun b => if b = true then tc σ H3 fun w' H4 => r' y w' H4 Q else Q (.bl false) H3) : tChain r r' ta te tc σ H Q := k
theorem r_gsub {tsv : TSet} {R : St → Hp → Prop} (k : ta σ H fun o H1 => te σ H1 fun i H2 => tsv o i v H2 fun H3 => R σ H3) : gSub ta te tsv v σ H R := k
/-! ### operators by values -/
variable {a b : Int} {l l' p q : Addr} {xs zs : List V}
theorem v_add (k : Q (.int (a + b)) H) : bAdd K (.int a) (.int b) H Q := .inl ⟨a, b, rfl, rfl, k⟩
theorem v_addL (h1 : H l = some (.lst xs)) (h2 : H l' = some (.lst zs)) (n : xs.length + zs.length ≤ sizeLine) (k : ∀ p, H p = none → Q (.ref p) (upd H p (.lst (xs ++ zs)))) : bAdd K (.ref l) (.ref l') H Q := .inr (.inl ⟨l, l', xs, zs, rfl, rfl, h1, h2, n, k⟩)
theorem v_addS {s z : Str} (n : s.length + z.length ≤ sizeLine) (k : Q (.str (s ++ z)) H) : bAdd K (.str s) (.str z) H Q := .inr (.inr (.inl ⟨s, z, rfl, rfl, n, k⟩))
theorem v_addT (h1 : H l = some (.tup xs)) (h2 : H l' = some (.tup zs)) (n : xs.length + zs.length ≤ sizeLine) (k : ∀ p H', H' p = some (.tup (xs ++ zs)) → Keep Nil H H' → Q (.ref p) H') : bAdd K (.ref l) (.ref l') H Q := by
  refine .inr (.inr (.inr ⟨l, l', xs, zs, rfl, rfl, SqT.of h1, SqT.of h2, n, fun e => ?_, fun _ e => ?_, fun _ _ p hp => k p _ upd_same (Keep.alloc hp)⟩))
  · subst e; exact k l' H (by simpa using h2) Keep.refl
  · subst e; exact k l H (by simpa using h1) Keep.refl
theorem v_sub (k : Q (.int (a - b)) H) : bSub (.int a) (.int b) H Q := ⟨a, b, rfl, rfl, k⟩
theorem v_mul (n : -(2 ^ 64) < a ∧ a < 2 ^ 64) (k : Q (.int (a * b)) H) : bMul (.int a) (.int b) H Q := .inl ⟨a, b, rfl, rfl, .inl n, k⟩
theorem v_mulR (n : -(2 ^ 64) < b ∧ b < 2 ^ 64) (k : Q (.int (a * b)) H) : bMul (.int a) (.int b) H Q := .inl ⟨a, b, rfl, rfl, .inr n, k⟩
theorem v_mulW (n : CMulW a b) (k : Q (.int (a * b)) H) : bMul (.int a) (.int b) H Q := .inr (.inl ⟨a, b, rfl, rfl, n, k⟩)
theorem v_mulL (h : H l = some (.lst xs)) (n : -(2 ^ 63) ≤ a ∧ a < 2 ^ 63 ∧ xs.length * a.toNat ≤ sizeLine) (k : ∀ p, H p = none → Q (.ref p) (upd H p (.lst (List.replicate a.toNat xs).flatten))) : bMul (.ref l) (.int a) H Q :=
  .inr (.inr ⟨l, a, xs, rfl, rfl, h, n.1, n.2.1, n.2.2, k⟩)
theorem v_mod (n : 0 < b) (k : Q (.int (a % b)) H) : bMod (.int a) (.int b) H Q := ⟨a, b, rfl, rfl, n, k⟩
theorem v_div (n : 0 < b ∧ b < 1073741824) (k : Q (.int (a / b)) H) : bDiv (.int a) (.int b) H Q := .inl ⟨a, b, rfl, rfl, n, k⟩
theorem v_divW (n : CDivW a b) (k : Q (.int (a / b)) H) : bDiv (.int a) (.int b) H Q := .inr ⟨a, b, rfl, rfl, n, k⟩
theorem v_pow (n : CPow a b) (k : Q (.int (a ^ b.toNat)) H) : bPow (.int a) (.int b) H Q := ⟨a, b, rfl, rfl, n, k⟩
theorem v_eq (k : Q (.bl (decide (a = b))) H) : cEq K (.int a) (.int b) H Q := .inl ⟨rfl, by
  have e : decide (V.int a = V.int b) = decide (a = b) := by
    by_cases h : a = b
    · subst h; simp
    · rw [decide_eq_false h, decide_eq_false (fun z => h (V.int.inj z))]
  rw [e]; exact k⟩
theorem v_eqS {s z : Str} (k : Q (.bl (decide (s = z))) H) : cEq K (.str s) (.str z) H Q := .inl ⟨rfl, by
  have e : decide (V.str s = V.str z) = decide (s = z) := by
    by_cases h : s = z
    · subst h; simp
    · rw [decide_eq_false h, decide_eq_false (fun z => h (V.str.inj z))]
  rw [e]; exact k⟩
theorem v_ne (k : Q (.bl (!decide (a = b))) H) : cNe K (.int a) (.int b) H Q := .inl ⟨rfl, by
  have e : decide (V.int a = V.int b) = decide (a = b) := by
    by_cases h : a = b
    · subst h; simp
    · rw [decide_eq_false h, decide_eq_false (fun z => h (V.int.inj z))]
  rw [e]; exact k⟩
theorem v_neS {s z : Str} (k : Q (.bl (!decide (s = z))) H) : cNe K (.str s) (.str z) H Q := .inl ⟨rfl, by
  have e : decide (V.str s = V.str z) = decide (s = z) := by
    by_cases h : s = z
    · subst h; simp
    · rw [decide_eq_false h, decide_eq_false (fun z => h (V.str.inj z))]
  rw [e]; exact k⟩
theorem v_eqD {d e : PyData} (h1 : Dp K H x d) (h2 : Dp K H y e) (s1 : SeqAt.shaped d = true) (s2 : SeqAt.shaped e = true) (k : Q (.bl (PyData.eqv d e)) H) : cEq K x y H Q := .inr ⟨d, e, h1, h2, s1, s2, k⟩
theorem v_neD {d e : PyData} (h1 : Dp K H x d) (h2 : Dp K H y e) (s1 : SeqAt.shaped d = true) (s2 : SeqAt.shaped e = true) (k : Q (.bl (!PyData.eqv d e)) H) : cNe K x y H Q := .inr ⟨d, e, h1, h2, s1, s2, k⟩
theorem v_lt (k : Q (.bl (decide (a < b))) H) : cLt K (.int a) (.int b) H Q := .inl ⟨a, b, rfl, rfl, k⟩
theorem v_le (k : Q (.bl (decide (a ≤ b))) H) : cLe (.int a) (.int b) H Q := ⟨a, b, rfl, rfl, k⟩
theorem v_gt (k : Q (.bl (decide (b < a))) H) : cGt (.int a) (.int b) H Q := ⟨a, b, rfl, rfl, k⟩
theorem v_ge (k : Q (.bl (decide (b ≤ a))) H) : cGe (.int a) (.int b) H Q := ⟨a, b, rfl, rfl, k⟩
theorem v_isN (k : Q (.bl (decide (x = .non))) H) : cIs x .non H Q := .inl ⟨rfl, k⟩
theorem v_notN (k : Q (.bl (!decide (x = .non))) H) : cIsNot x .non H Q := .inl ⟨rfl, k⟩
theorem v_isB {c d : Bool} (k : Q (.bl (decide (c = d))) H) : cIs (.bl c) (.bl d) H Q := .inr ⟨c, d, rfl, rfl, k⟩
theorem v_notB {c d : Bool} (k : Q (.bl (!decide (c = d))) H) : cIsNot (.bl c) (.bl d) H Q := .inr ⟨c, d, rfl, rfl, k⟩
theorem v_ixL (h : H l = some (.lst xs)) (n : atI xs a = some v) (k : Q v H) : bIx P w K (.ref l) (.int a) H Q := .inl ⟨l, xs, a, v, rfl, rfl, SqL.of h, n, k⟩
theorem v_ixK (h : SqL K H l xs) (n : atI xs a = some v) (k : Q v H) : bIx P w K (.ref l) (.int a) H Q := .inl ⟨l, xs, a, v, rfl, rfl, h, n, k⟩
theorem v_ixT (h : H l = some (.tup xs)) (n : atI xs a = some v) (k : Q v H) : bIx P w K (.ref l) (.int a) H Q := .inr (.inl ⟨l, xs, a, v, rfl, rfl, SqT.of h, n, k⟩)
theorem v_setL {R : Hp → Prop} {jj : Nat} (h : H l = some (.lst xs)) (n : ixN xs.length a = some jj) (k : R (upd H l (.lst (xs.set jj v)))) : bSet P w (.ref l) (.int a) v H R := .inl ⟨l, xs, a, jj, rfl, rfl, h, n, k⟩
theorem v_lenL (h : H l = some (.lst xs)) (k : Q (.int xs.length) H) : kLen K [.ref l] H Q := .inl ⟨.ref l, xs.length, rfl, .inl ⟨xs, SqL.of h, rfl⟩, k⟩
theorem v_lenK (h : SqL K H l xs) (k : Q (.int xs.length) H) : kLen K [.ref l] H Q := .inl ⟨.ref l, xs.length, rfl, .inl ⟨xs, h, rfl⟩, k⟩
theorem v_lenT (h : H l = some (.tup xs)) (k : Q (.int xs.length) H) : kLen K [.ref l] H Q := .inl ⟨.ref l, xs.length, rfl, .inr ⟨xs, SqT.of h, rfl⟩, k⟩
theorem v_int (k : Q (.int a) H) : kInt [.int a] H Q := .inl ⟨a, rfl, k⟩
theorem v_intB {c : Bool} (k : Q (.int (if c then 1 else 0)) H) : kInt [.bl c] H Q := .inr ⟨c, rfl, k⟩
theorem v_max (k : Q (.int (if b > a then b else a)) H) : kMax K [.int a, .int b] H Q := .inl ⟨a, b, rfl, k⟩
theorem v_min (k : Q (.int (if b < a then b else a)) H) : kMin K [.int a, .int b] H Q := .inl ⟨a, b, rfl, k⟩
theorem v_maxL {ns : List Int} (h : H l = some (.lst (ns.map V.int))) (n : 0 < ns.length) (k : ∀ m, m ∈ ns → (∀ y, y ∈ ns → y ≤ m) → Q (.int m) H) : kMax K [.ref l] H Q := .inr ⟨l, ns, rfl, SqL.of h, n, k⟩
theorem v_abs (k : Q (.int (if a < 0 then -a else a)) H) : kAbs [.int a] H Q := ⟨a, rfl, k⟩
theorem v_listL (h : H l = some (.lst xs)) (k : ∀ p, H p = none → Q (.ref p) (upd H p (.lst xs))) : kList K [.ref l] H Q := .inl ⟨l, xs, rfl, .inl (SqL.of h), k⟩
theorem v_listT (h : H l = some (.tup xs)) (k : ∀ p, H p = none → Q (.ref p) (upd H p (.lst xs))) : kList K [.ref l] H Q := .inl ⟨l, xs, rfl, .inr (SqT.of h), k⟩
theorem v_tupleL (h : H l = some (.lst xs)) (k : ∀ p, H p = none → Q (.ref p) (upd H p (.tup xs))) : kTuple K [.ref l] H Q := ⟨l, xs, rfl, .inl ⟨SqL.of h, k⟩⟩
theorem v_sortedL {ns : List Int} (h : H l = some (.lst (ns.map V.int))) (k : ∀ (ns' : List Int) (p : Addr), ns'.Perm ns → ns'.Pairwise (· ≤ ·) → H p = none → Q (.ref p) (upd H p (.lst (ns'.map V.int)))) : kSorted K w [.ref l] H Q := .inl ⟨l, ns, rfl, SqL.of h, k⟩
theorem v_sortedS {S : Int → Bool} {n : Nat} (h : H l = some (SetO w l S n)) (k : ∀ (ns : List Int) (p : Addr), ns.Pairwise (· < ·) → (∀ z : Int, z ∈ ns ↔ S z = true) → ns.length = n → H p = none → Q (.ref p) (upd H p (.lst (ns.map V.int)))) : kSorted K w [.ref l] H Q := .inr (.inl ⟨l, S, n, rfl, h, k⟩)
theorem v_sortedT {ns : List Int} (h : H l = some (.tup (ns.map V.int))) (k : ∀ (ns' : List Int) (p : Addr), ns'.Perm ns → ns'.Pairwise (· ≤ ·) → H p = none → Q (.ref p) (upd H p (.lst (ns'.map V.int)))) : kSorted K w [.ref l] H Q := .inr (.inr (.inl ⟨l, ns, rfl, SqT.of h, k⟩))
theorem v_sortedD {kvs : List (L2.Key × V)} {ks : List Int} (h : H l = some (.dK kvs)) (e : kvs.map (·.1) = ks.map Sum.inl) (k : ∀ (ns' : List Int) (p : Addr), ns'.Perm ks → ns'.Pairwise (· ≤ ·) → H p = none → Q (.ref p) (upd H p (.lst (ns'.map V.int)))) : kSorted K w [.ref l] H Q := .inr (.inr (.inr ⟨l, kvs, ks, rfl, h, e, k⟩))
theorem v_set {ns : List Int} (h : H l = some (.lst (ns.map V.int))) (n : ns.length ≤ 4000) (k : ∀ (p : Addr) (c : Nat), H p = none → c ≤ ns.length → Q (.ref p) (upd H p (SetO w p (fun j => decide (j ∈ ns)) c))) : uSetI K w [.ref l] H Q := ⟨l, ns, rfl, SqL.of h, n, k⟩
theorem v_append (h : H l = some (.lst xs)) (n : xs.length < sizeLine) (k : Q .non (upd H l (.lst (xs ++ [v])))) : rAppend (.ref l) [v] H Q := ⟨l, xs, v, rfl, rfl, h, n, k⟩
theorem v_clear (h : H l = some (.lst xs)) (k : Q .non (upd H l (.lst []))) : rClear (.ref l) [] H Q := ⟨l, xs, rfl, rfl, h, k⟩
theorem v_insert (h : H l = some (.lst xs)) (n : xs.length < sizeLine) (z : 0 ≤ a ∧ a < 2 ^ 63) (k : Q .non (upd H l (.lst (xs.take a.toNat ++ [v] ++ xs.drop a.toNat)))) : kInsert (.ref l) [.int a, v] H Q := ⟨l, xs, a, v, rfl, rfl, h, n, z.1, z.2, k⟩
theorem v_slL {lo hi : Option Int} (h : H l = some (.lst xs)) (k : ∀ p, H p = none → Q (.ref p) (upd H p (.lst (cutV xs lo hi)))) : bSl K (.ref l) lo hi H Q := .inl ⟨l, xs, rfl, SqL.of h, k⟩
theorem v_isi {t u : Value} {c : V} {b : Bool} (c1 : ClsV c u) (c2 : TyX K H x t) (e : PySem.W.kitOne K t u = some b) (k : Q (.bl b) H) : rIsi K [x, c] H Q := ⟨x, c, t, u, b, rfl, c1, c2, e, k⟩
theorem v_isiI {n : String} {b : Bool} (e : kitB "int" n = some b) (k : Q (.bl b) H) : rIsi K [.int a, .ty n] H Q := v_isi (.ty n) (.base (.int _)) (kit_ty e) k
theorem v_isiB {n : String} {c b : Bool} (e : kitB "bool" n = some b) (k : Q (.bl b) H) : rIsi K [.bl c, .ty n] H Q := v_isi (.ty n) (.base (.bl _)) (kit_ty e) k
theorem v_isiL {n : String} {b : Bool} (h : H l = some (.lst xs)) (e : kitB "list" n = some b) (k : Q (.bl b) H) : rIsi K [.ref l, .ty n] H Q := v_isi (.ty n) (.base (.lst h)) (kit_ty e) k
theorem v_isiT {n : String} {b : Bool} (h : H l = some (.tup xs)) (e : kitB "tuple" n = some b) (k : Q (.bl b) H) : rIsi K [.ref l, .ty n] H Q := v_isi (.ty n) (.base (.tup h)) (kit_ty e) k
theorem v_isiS {n : String} {s : Str} {b : Bool} (e : kitB "str" n = some b) (k : Q (.bl b) H) : rIsi K [.str s, .ty n] H Q := v_isi (.ty n) (.base (.str _)) (kit_ty e) k
theorem kit_int_int : kitB "int" "int" = some true := by decide +kernel
theorem kit_int_bool : kitB "int" "bool" = some false := by decide +kernel
theorem kit_int_list : kitB "int" "list" = some false := by decide +kernel
theorem kit_int_tuple : kitB "int" "tuple" = some false := by decide +kernel
theorem kit_int_str : kitB "int" "str" = some false := by decide +kernel
theorem kit_bool_int : kitB "bool" "int" = some true := by decide +kernel
theorem kit_bool_bool : kitB "bool" "bool" = some true := by decide +kernel
theorem kit_bool_list : kitB "bool" "list" = some false := by decide +kernel
theorem kit_bool_tuple : kitB "bool" "tuple" = some false := by decide +kernel
theorem kit_bool_str : kitB "bool" "str" = some false := by decide +kernel
theorem kit_list_int : kitB "list" "int" = some false := by decide +kernel
theorem kit_list_bool : kitB "list" "bool" = some false := by decide +kernel
theorem kit_list_list : kitB "list" "list" = some true := by decide +kernel
theorem kit_list_tuple : kitB "list" "tuple" = some false := by decide +kernel
theorem kit_list_str : kitB "list" "str" = some false := by decide +kernel
theorem kit_tuple_int : kitB "tuple" "int" = some false := by decide +kernel
theorem kit_tuple_bool : kitB "tuple" "bool" = some false := by decide +kernel
theorem kit_tuple_list : kitB "tuple" "list" = some false := by decide +kernel
theorem kit_tuple_tuple : kitB "tuple" "tuple" = some true := by decide +kernel
theorem kit_tuple_str : kitB "tuple" "str" = some false := by decide +kernel
theorem kit_str_int : kitB "str" "int" = some false := by decide +kernel
theorem kit_str_bool : kitB "str" "bool" = some false := by decide +kernel
theorem kit_str_list : kitB "str" "list" = some false := by decide +kernel
theorem kit_str_tuple : kitB "str" "tuple" = some false := by decide +kernel
theorem kit_str_str : kitB "str" "str" = some true := by decide +kernel
theorem kit_NoneType_int : kitB "NoneType" "int" = some false := by decide +kernel
theorem kit_NoneType_bool : kitB "NoneType" "bool" = some false := by decide +kernel
theorem kit_NoneType_list : kitB "NoneType" "list" = some false := by decide +kernel
theorem kit_NoneType_tuple : kitB "NoneType" "tuple" = some false := by decide +kernel
theorem kit_NoneType_str : kitB "NoneType" "str" = some false := by decide +kernel
theorem kit_dict_int : kitB "dict" "int" = some false := by decide +kernel
theorem kit_dict_bool : kitB "dict" "bool" = some false := by decide +kernel
theorem kit_dict_list : kitB "dict" "list" = some false := by decide +kernel
theorem kit_dict_tuple : kitB "dict" "tuple" = some false := by decide +kernel
theorem kit_dict_str : kitB "dict" "str" = some false := by decide +kernel
/-! ### loops -/
def kFor (J : It) (g : TG) (tb : TS) (D : Ends) (σ : St) (H : Hp) : Prop := ∃ W : Nat → Nat → St → Hp → Prop, (∃ m, W 0 m σ H) ∧ ∀ i m σ H, W i m σ H →
  (J.stop i H ∧ D.nx σ H) ∨ (J.go i H ∧ ∃ N : St → Hp → Prop, (∀ σ' H', N σ' H' → ∃ m', m' < m ∧ W (i + 1) m' σ' H') ∧ ∀ x H', J.yld i H x H' → g x σ H' fun σ2 H2 => tb { D with nx := N, ct := N, bk := D.nx } σ2 H2)
theorem r_for {wi : TI} (k : wi σ H fun J H1 => kFor J g tb D σ H1) : tFor wi g tb D σ H := k
def kRng1 (vs : List V) (H : Hp) (R : It → Hp → Prop) : Prop := ∃ j : Int, vs = [.int j] ∧ -(2 ^ 62) ≤ j ∧ j < 2 ^ 62 ∧ R (Itr 0 j.toNat) H
theorem r_rng1 {R : It → Hp → Prop} (k : tr σ H fun vs H1 => kRng1 vs H1 R) : iRng1 tr σ H R := k
theorem r_krng1 {R : It → Hp → Prop} (n : -(2 ^ 62) ≤ a ∧ a < 2 ^ 62) (k : R (Itr 0 a.toNat) H) : kRng1 [.int a] H R := ⟨a, rfl, n.1, n.2, k⟩
theorem r_iany {R : It → Hp → Prop} (k : te σ H fun x H1 => kIter K x H1 R) : iAny K te σ H R := k
theorem r_kiterL {R : It → Hp → Prop} (h : H l = some (.lst xs)) (k : R (Itl K l) H) : kIter K (.ref l) H R := .inl ⟨l, rfl, ⟨xs, SqL.of h⟩, k⟩
theorem r_kiterT {R : It → Hp → Prop} (h : H l = some (.tup xs)) (k : R (Itt K l) H) : kIter K (.ref l) H R := .inr (.inl ⟨l, rfl, ⟨xs, SqT.of h⟩, k⟩)
def kLc (J : It) (g : TG) (tt : TT) (te : TE) (vs : List Nat) (σ : St) (H1 : Hp) (Q : VK) : Prop := ∀ D, H1 D = none → ∃ W : Nat → Nat → Hp → Prop, (∃ m, W 0 m (upd H1 D (.lst []))) ∧ ∀ i m H, W i m H →
  (J.stop i H ∧ Q (.ref D) H) ∨ (J.go i H ∧ ∃ Nx : Hp → Prop, (∀ H', Nx H' → ∃ m', m' < m ∧ W (i + 1) m' H') ∧ ∀ x H', J.yld i H x H' → g x (wipe σ vs) H' fun σ2 H2 => wipe σ2 vs = wipe σ vs ∧ tt σ2 H2 fun b H3 =>
    if b = true then te σ2 H3 fun y H4 => ∃ acc, H4 D = some (.lst acc) ∧ acc.length < sizeLine ∧ Nx (upd H4 D (.lst (acc ++ [y]))) else Nx H3)
theorem r_lc {wi : TI} {vs : List Nat} (k : wi σ H fun J H1 => kLc J g tt te vs σ H1 Q) : tLc wi g tt te vs σ H Q := k
def kRg (x : V) (H : Hp) (R : Int → Int → Hp → Prop) : Prop := ∃ n, x = .int n ∧ R 0 n H
theorem r_lstRg1 (k : te σ H fun x H1 => kRg x H1 fun c d H2 => RgOk c d ∧ ∀ q, H2 q = none → Q (.ref q) (upd H2 q (.lst (rgV c d)))) : tLstRg (tRg1 te) σ H Q := k
theorem r_krg {R : Int → Int → Hp → Prop} (k : R 0 a H) : kRg (.int a) H R := ⟨a, rfl, k⟩
theorem absF {J : It} {S : Hp → Prop} (h : S H) (k : ∀ HT, S HT → kFor J g tb D σ HT) : kFor J g tb D σ H := k H h
theorem r_yes {R : Bool → Hp → Prop} (k : R true H) : tYes σ H R := k
theorem r_seqT {n : Nat} {ts : TGs} {R : St → Hp → Prop} (h : H l = some (.tup xs)) (e : xs.length = n) (k : ts xs σ H R) : gSeq K n ts (.ref l) σ H R := .inl ⟨l, xs, rfl, SqT.of h, e, k⟩
theorem r_seqL {n : Nat} {ts : TGs} {R : St → Hp → Prop} (h : H l = some (.lst xs)) (e : xs.length = n) (k : ts xs σ H R) : gSeq K n ts (.ref l) σ H R := .inr ⟨l, xs, rfl, SqL.of h, e, k⟩
theorem r_gcons {ts : TGs} {R : St → Hp → Prop} (k : g v σ H fun σ' H' => ts xs σ' H' R) : gCons g ts (v :: xs) σ H R := ⟨v, xs, rfl, k⟩
theorem r_gnil {R : St → Hp → Prop} (k : R σ H) : gNil [] σ H R := ⟨rfl, k⟩
end
end Hm

/-! F4: a caught error held as a value behind its suite; isinstance of it. -/
namespace Hm
open PySem PySem.Spec PyProof.Rows L2
/-- an error of the class cls at a -/
def ExV (cls : Value) (a : Addr) : HO := .ext fun h => ∃ (oe : Obj) (vs : Array Value), h.get? a = some oe ∧ Zc cls none oe ∧ oe.data = .fields vs
theorem exV_ok {P : Program} {w : World} {H : Hp} {h : Heap} {a : Addr} {cls : Value} {oe : Obj} {vs : Array Value} (e : h.get? a = some oe) (z : Zc cls none oe) (d : oe.data = .fields vs) : ObjOk P w H h a (ExV cls a) :=
  ⟨⟨oe, vs, e, z, d⟩, ⟨oe, e⟩, fun _ _ ⟨o, v, q, r⟩ k => ⟨o, v, k o q, r⟩⟩
section
variable {X : Cx} {pins : List (Addr × Obj)} {σ : L2.St} {H : Hp} {s : Shared}
/-- an object of ours, not told of yet, is told of -/
theorem show_ {a : Addr} {φ : Heap → Prop} (I : Inv X pins σ H s) (ha : H a = none) (h0 : X.s_0.heap.get? a = none) (hL : X.env.locals ≠ a) (hc : ∀ x c, X.env.cells.lookup x = some c → c ≠ a) (hp : ∀ p ∈ X.pn ++ pins, p.1 ≠ a)
    (new : ObjOk X.prog X.w (upd H a (.ext φ)) s.heap a (.ext φ)) : Inv X pins σ (upd H a (.ext φ)) s := by
  have old : ∀ b o, H b = some o → upd H a (.ext φ) b = some o := fun b o e => by rw [upd_ne (ne_of_none e ha)]; exact e
  refine ⟨I.ok, I.os, I.bare, ⟨I.base.keep, I.base.slot, fun b o e n hx => ?_, I.base.there, fun b xs e => old _ _ (I.base.tups b xs e), fun b o u e => old _ _ (I.base.frzs b o u e), fun b ps e => ?_⟩, I.loc, I.cell, ?_, fun x c e => ?_, fun p hpp => ?_, fun b u e => ?_, I.len⟩
  · rw [upd_ne (fun z => by rw [z, h0] at e; cases e)]
    exact I.base.free b o e n hx
  · obtain ⟨more, q⟩ := I.base.tbls b ps e
    exact ⟨more, old _ _ q⟩
  · rw [upd_ne hL]; exact I.free
  · rw [upd_ne (hc x c e)]; exact I.freeC x c e
  · obtain ⟨q1, q2, q3⟩ := I.pin p hpp
    exact ⟨q1, by rw [upd_ne (hp p hpp)]; exact q2, q3⟩
  · by_cases hb : b = a
    · subst hb
      rw [upd_same] at e
      cases e
      exact new
    · rw [upd_ne hb] at e
      exact (I.hok b u e).stay (fun _ _ _ q => q) (fun c q => old _ _ q) fun c xs q => old _ _ q
end
/-- what a clause «except c as n» wishes, the error kept: slot i is n's -/
def wVal (K : PySem.W.Frag) (c : Value) (i : Nat) (ts : Addr → Value → TS) (Wout : WX) (D : Ends) : WX := fun cls d σ H =>
  d = none ∧ ∃ b, PySem.W.exmOne K cls c = some b ∧
    (b = true → ∀ a, H a = none → ts a cls { nx := fun σ' H' => D.nx (σ'.set i none) (upd H' a (ExV cls a)), rt := D.rt, bk := fun _ _ => False, ct := fun _ _ => False } (σ.set i (some (.ref a))) H) ∧ (b = false → Wout cls d σ H)
section
variable {X : Cx} {x n : Str} {c : Value} {i : Nat} {body suite : List Stmt} {b₀ : Stmt} {np pos pos' : Pos} {tb : WX → TS} {ts : Addr → Value → TS} {Wout : WX}
/-- try: body, except x as n: suite; what is caught stays an object that is known -/
theorem ps_try_val (hs : X.stack = X.env :: X.outer) (hf : X.env.frame = some X.env.locals) (hN : X.N.Nodup) (hi : X.N[i]? = some n) (hln : X.env.kindOf n = some .local) (hc : Names X x c) (tk : Takes X Wout) (hex : X.ex = [])
    (hb : ∀ (W : WX) (pn : List (Addr × Obj)) (xe : Value → Shared → Prop), Takes (X.tr pn xe) W → PassesOwn (model X.prog X.w) X.A X.env xe → PSs (X.tr pn xe) body (tb W))
    (hsu : ∀ (a : Addr) (oe : Obj) (cls : Value) (pn : List (Addr × Obj)), PSs (X.suite a ((a, oe) :: pn)) (b₀ :: suite) (ts a cls)) :
    PS X (.Try body [.ExceptHandler (some (.Name x np)) (some n) (b₀ :: suite) pos'] [] [] pos) (fun D σ H => tb (wVal X.K c i ts Wout D) D σ H) := by
  refine ⟨fun pins s σ H D I h => wpAny_Try_except ?_⟩
  have ok := I.ok
  have hfr : X.A.frames = some (X.env :: X.outer) := by rw [ok.frames, hs]
  have run := (hb (wVal X.K c i ts Wout D) (X.pn ++ pins) (fun e s₁ => wpAny (model X.prog X.w) X.A (noteFrame e X.env) (fun _ s₂ => wpAny (model X.prog X.w) X.A (setFlight e none)
    (fun _ s₃ => wpAny (model X.prog X.w) X.A (handleBy e X.env [.ExceptHandler (some (.Name x np)) (some n) (b₀ :: suite) pos']) (SP X pins D) X.xe s₃) X.xe s₂) X.xe s₁) ?_ PassesOwn.looking).run [] s σ H D (I.toTry _) h
  · refine wpAny_mono run (fun f s1 hsp => ?_) fun _ _ z => z
    cases f with
    | next => obtain ⟨σ', H', J', q⟩ := hsp; exact wpAny_execs_nil ⟨σ', H', J'.ofTry ok, q⟩
    | brk => obtain ⟨σ', H', J', q⟩ := hsp; exact ⟨σ', H', J'.ofTry ok, q⟩
    | cont => obtain ⟨σ', H', J', q⟩ := hsp; exact ⟨σ', H', J'.ofTry ok, q⟩
    | ret u => obtain ⟨v, σ', H', J', r, q⟩ := hsp; exact ⟨v, σ', H', J'.ofTry ok, r, q⟩
  rintro u s' ⟨a, B, sI, pins', σ', H', cls, d, rfl, J', nb, up, sky, na, os, ag, rfl, b, hb1, hyes, hno⟩
  have J : Inv X pins σ' H' sI := J'.ofTry ok
  have air : Sky B (X.env :: X.outer) a (Zc cls none) X.env.locals s'.heap := by rw [← hs]; exact sky
  show wpAny (model X.prog X.w) X.A (noteFrame (.ref a) X.env) _ _ _
  refine Sky.land Zc.steady hfr hf air fun h3 fl3 up3 => ?_
  have J3 : Inv X pins σ' H' { s' with heap := h3 } := J.landed nb fl3.1 (up.trans up3) os ag
  obtain ⟨oe3, vs3, he3, hz3, hd3⟩ := fl3.there
  have aside : a ∉ frs (X.env :: X.outer) := fun hm => by
    obtain ⟨_, o', e', hnf⟩ := fl3.2.2.1.mem hm
    rw [he3] at e'; cases e'
    exact hnf _ hd3
  have gI : sI.heap.get? a = none := by
    cases e : sI.heap.get? a with
    | none => rfl
    | some o =>
      have q := nb a o e (by show a ∉ frs X.stack; rw [hs]; exact aside)
      rw [fl3.2.1] at q; cases q
  have nL : a ≠ X.env.locals := fun z => aside (List.mem_filterMap.mpr ⟨X.env, List.mem_cons_self, by rw [hf, z]⟩)
  have nF : a ∉ X.fs := fun hm => by
    obtain ⟨e, he, q⟩ := List.mem_filterMap.mp hm
    exact aside (List.mem_filterMap.mpr ⟨e, List.mem_cons_of_mem _ he, q⟩)
  have h00 : X.s_0.heap.get? a = none := by
    cases e : X.s_0.heap.get? a with
    | none => rfl
    | some o =>
      obtain ⟨o', q⟩ := J.base.there a o e (by rw [hex]; exact List.not_mem_nil)
      rw [gI] at q; cases q
  have noCell : ∀ y k, X.env.cells.lookup y = some k → k ≠ a := fun y k e z => by
    obtain ⟨v, o, q, _⟩ := J.cell y k e
    rw [z, gI] at q; cases q
  have noPin : ∀ p ∈ X.pn ++ pins, p.1 ≠ a := fun p hp z => by
    have q := (J.pin p hp).1
    rw [z, gI] at q; cases q
  have S3 := J3.suite he3 hd3 na nL nF
  refine wpAny_handleBy_cons (codeAny_handlers_test ?_) (by intro q; cases q)
  have LT : PySem.W.Looks (model X.prog X.w) h3 (typeOf (.ref a)) cls := fun A Q E s k q => wpAny_typeOf_ref (k _ _ he3) (by rw [hz3.1]; exact q)
  have LM := PySem.W.exm_one (M := model X.prog X.w) (J3.kIn) LT hb1
  have test : ∀ {Q : Value → Shared → Prop} {E : Value → Shared → Prop}, Q c { s' with heap := h3 } → wpAny (model X.prog X.w) (X.A.mark (some (.ref a))) (eval (.Name x np) X.env) Q E { s' with heap := h3 } := fun {Q E} q => by
    obtain ⟨hg, hdbg, hm | ⟨hm, hv, hnn⟩⟩ := hc
    · exact ld_glob (X := X.suite a ((a, oe3) :: (X.pn ++ pins))) S3 hg hm q hdbg
    · exact ld_blt (X := X.suite a ((a, oe3) :: (X.pn ++ pins))) S3 hg hm hv q hnn hdbg
  refine test (LM.here ?_)
  cases b with
  | false =>
    show wpAny _ X.A (handleBy (.ref a) X.env []) _ _ _
    refine wpAny_handleBy_nil ?_
    obtain ⟨k1, k2, k3, oe, vs, T, oT, ts', he, hz, hd, h1, hr⟩ := id fl3
    unfold PySem.passOn
    refine wpAny_bind (wpAny_field he hd h1 ?_)
    rw [if_neg (show ¬ ((Value.ref T == Value.none) = true) from by simp)]
    have fin : wpAny (model X.prog X.w) X.A (setFlight (.ref a) X.env.frame) (fun _ s4 => wpAny (model X.prog X.w) X.A (throw (.ref a) : Sem Flow) (SP X pins D) X.xe s4) X.xe { s' with heap := h3 } := by
      rw [hf]
      refine HandSPX.setFlight_upZ fl3 fun h4 hh4 up4 => wpAny_throw (tk _ _ ?_)
      exact ⟨a, B, sI, pins, σ', H', cls, none, rfl, J, nb, (up.trans up3).trans up4, .inr (.inr (by rw [hs]; exact hh4)), na, os, ag, hno rfl⟩
    first
      | exact wpAny_bind (wpAny_pure (wpAny_bind fin))
      | exact wpAny_bind fin
  | true =>
    refine codeAny_handlers_suite_as (HandSPX.lands_againZ fl3 fun h4 fl4 up4 => ?_)
    have J4 : Inv X pins σ' H' { s' with heap := h4 } := J.landed nb fl4.1 ((up.trans up3).trans up4) os ag
    obtain ⟨oe4, vs4, he4, hz4, hd4⟩ := fl4.there
    have S4 := J4.suite he4 hd4 na nL nF
    refine store_ok (X := X.suite a ((a, oe4) :: (X.pn ++ pins))) (v := .ref a) S4 hN hi (.inl hln) rfl (fun s5 S5 => ?_) (.inr hln)
    refine wpAny_mono ((hsu a oe4 cls (X.pn ++ pins)).run [] s5 _ H' _ S5 (hyes rfl a na)) (fun f s6 hsp => ?_) (fun _ _ z => False.elim z)
    cases f with
    | next =>
      obtain ⟨σ6, H6, S6, q6⟩ := hsp
      obtain ⟨e6, n6, _⟩ := S6.pin (a, oe4) (List.mem_append_left _ List.mem_cons_self)
      have J6 : Inv X pins σ6 H6 s6 := S6.unsuite ok
      have J7 := show_ (φ := fun h => ∃ (oe : Obj) (vs : Array Value), h.get? a = some oe ∧ Zc cls none oe ∧ oe.data = .fields vs) J6 n6 h00 nL.symm noCell noPin (exV_ok e6 hz4 hd4)
      exact gone_ok J7 hN hi hln fun s7 J8 => ⟨_, _, J8, q6⟩
    | brk => obtain ⟨σ6, H6, S6, q6⟩ := hsp; exact q6.elim
    | cont => obtain ⟨σ6, H6, S6, q6⟩ := hsp; exact q6.elim
    | ret u =>
      obtain ⟨v6, σ6, H6, S6, r6, q6⟩ := hsp
      exact gone_ok (S6.unsuite ok) hN hi hln fun s7 J7 => ⟨_, _, _, J7, r6, q6⟩
end
/-- isinstance(e, C), e an error that is known -/
def uIsV (K : PySem.W.Frag) : List V → Hp → VK → Prop := fun xs H Q => ∃ (a D : Addr) (c : V) (u : Value) (b : Bool), xs = [.ref a, c] ∧ H a = some (ExV (.ref D) a) ∧ ExcC K D ∧ ClsV c u ∧ PySem.W.kitOne K (.ref D) u = some b ∧ Q (.bl b) H
theorem k_isV {X : Cx} : CallR X (.builtin "isinstance") (uIsV X.K) := by
  intro pins s σ H xs us Q I r h
  obtain ⟨a, D, c, u, b, rfl, ha, C, hc, e, q⟩ := h
  obtain ⟨u1, u2, rfl, r1, r2⟩ := vals2 r
  have e2 := hc.eq r2
  subst e2
  cases r1
  obtain ⟨⟨oe, vs, hg, hz, hv⟩, _⟩ := I.hok a _ ha
  have J : PySem.W.InstAt s.heap a oe D none := by
    obtain ⟨oc, od, oda, osl⟩ := oe
    obtain ⟨h1, h2⟩ := hz
    dsimp only at h1 h2 hv
    subst h1 h2 hv
    exact ⟨hg, rfl, rfl, trivial⟩
  exact PySem.W.kia_one (PySem.W.handS_kitx_exc C.hg C.hk C.hs C.hd C.ha C.hn C.ht C.hm) I.kIn J e (fun z => nomatch z) fun tk => ⟨.bl b, H, I.tok tk, rfl, q⟩
/-! ### defs that raise, called within a try -/
section
variable {X : Cx} {k j : Nat} {C : Addr} {x m : Str} {sp : Sp} {p pos apos : Pos} {e o : Expr} {es : List Expr} {ta : TE} {t : TA} {W : WX}
def tMethS (C : Addr) (m : Str) (sp : Sp) (W : WX) (ta : TE) (t : TA) : TE := fun σ H Q => tMeth C m sp [] (fun cls d H => W cls d σ H) ta t σ H Q
theorem r_methS {σ : L2.St} {H : Hp} {Q : VK} (h : tMeth C m sp [] (fun cls d H => W cls d σ H) ta t σ H Q) : tMethS C m sp W ta t σ H Q := h
def tCallW (sp : Sp) (W : WX) (t : TA) : TE := fun σ H Q => tCall sp [] (fun cls d H => W cls d σ H) t σ H Q
theorem r_callW {σ : L2.St} {H : Hp} {Q : VK} (h : tCall sp [] (fun cls d H => W cls d σ H) t σ H Q) : tCallW sp W t σ H Q := h
theorem e_callS (c : Cal X.prog X.w X.K X.mg X.base (L2.CX X.prog X.w) k x sp) (hr : Room j X.A) (hk : k ≤ j) (tk : Takes X W) (hg : Gl X x) (ha : PA X (e :: es) t)
    (hdb : (x == ("__debug__" : Str)) = false := by decide) (he : starEach (e :: es) X.env = (false, eval e X.env) :: starEach es X.env := by rfl) (hpl : (backTo pos (starEach es X.env)).any (·.1) = false := by rfl) :
    PE X (.Call (.Name x p) (e :: es) [] pos) (tCallW sp W t) := by
  obtain ⟨f, fd, ps, F, hm, kp, b⟩ := c.ex
  refine ⟨fun pins s σ H Q I h => ?_⟩
  refine (pe_callS (E := WE W) F (hr.mono hk) hg hm kp b (fun σ => passAt tk σ) ha hdb he hpl).run pins s σ H Q I ?_
  have h' : t σ H fun vs H1 => sp (vs ++ []) H1 Q (fun cls d H => W cls d σ H) := h
  show t σ H fun vs H1 => sp vs H1 Q (fun cls d H => W cls d σ H)
  simpa only [List.append_nil] using h'
theorem e_methS {pl : Sem Bool} (c : Met X.prog X.w X.K X.mg X.base (L2.CX X.prog X.w) k C m sp) (hr : Room j X.A) (hk : k ≤ j) (tk : Takes X W) (he : PE X o ta) (ha : PA X (e :: es) t)
    (h1 : starEach (e :: es) X.env = (false, eval e X.env) :: starEach es X.env := by rfl) (h2 : (backTo pos (starEach es X.env)).any (·.1) = false := by rfl)
    (h3 : eval (.Call (.Attribute o m apos) (e :: es) [] pos) X.env = (do let ov ← eval o X.env; standAt apos.atName; let (f, first) ← holding [ov] (getMethod ov m pl)
                                                                          callWith pos f first (backTo pos (starEach (e :: es) X.env)) (backToKw pos (keywordEach [] X.env))) := by rfl) :
    PE X (.Call (.Attribute o m apos) (e :: es) [] pos) (tMethS C m sp W ta t) := by
  obtain ⟨f, fd, ps, hc, hm, F, b⟩ := c.ex
  refine ⟨fun pins s σ H Q I h => PySem.W.methodCall_KW (pl := pl) (thn (he.run pins s σ H _ I h) fun u s1 ⟨y, H1, I1, rx, a, dx, fs, ey, ea, l, q⟩ => ?_) h3⟩
  subst ey
  obtain rfl : u = Value.ref a := rx
  refine getmeth_ok I1 ea hc hm l (PySem.W.callWith_K (first := [.ref a]) (h₀ := X.base) I.ok.mod.kin hm.kp (thn (ha.run pos pins s1 σ H1 _ I1 q) fun us s2 ⟨vs, H2, I2, r, q2⟩ => ⟨I2.kIn, ?_⟩) h1 h2)
  refine run_fnS (E := WE W) (us := .ref a :: us) (vs := .ref a :: vs) F (hr.mono hk) b (fun _ _ _ e s' I c => tk e s' (XE.of_call I (fun _ _ _ h => h) c)) I2 (.cons rfl r) ?_
  have q' : sp (.ref a :: vs ++ []) H2 Q (fun cls d H => W cls d σ H) := q2
  simpa only [List.append_nil] using q'
end
/-! ### raise -/
def tRaiseC (C : Addr) (W : WX) : TS := fun _ σ H => W (.ref C) none σ H
def tRaiseE (C : Addr) (W : WX) (te : TE) : TS := fun _ σ H => te σ H fun _ H1 => W (.ref C) none σ H1
theorem r_raiseC {C : Addr} {W : WX} {D : Ends} {σ : L2.St} {H : Hp} (h : W (.ref C) none σ H) : tRaiseC C W D σ H := h
theorem r_raiseE {C : Addr} {W : WX} {te : TE} {D : Ends} {σ : L2.St} {H : Hp} (h : te σ H fun _ H1 => W (.ref C) none σ H1) : tRaiseE C W te D σ H := h
/-- what stands of a refusal's class -/
structure XCl (K : PySem.W.Frag) (mg : Str → Option Value) (x : Str) (C : Addr) : Prop where
  g : mg x = some (.ref C)
  x : PySem.W.excIn K C [.type "ValueError", .type "Exception", .type "BaseException", .type "object"] "ValueError.__new__" = true
  k : PySem.W.keepIn K (.ref C) = true
  b : PySem.W.subIn K (.ref C) (.type "BaseException") = some true
  t : PySem.W.typeIn K (.ref C) = some (.type "type")
section
variable {X : Cx} {C : Addr} {x m : Str} {p p2 pos pos' : Pos} {jj : Nat} {e : Expr} {ta : TE} {W : WX}
theorem ps_raiseC (hc : X.calm = true) (tk : Takes X W) (c : XCl X.K X.mg x C) (hg : Gl X x) (hdb : (x == ("__debug__" : Str)) = false := by decide) : PS X (.Raise (some (.Call (.Name x p) [.Constant (.str m) jj p2] [] pos)) none pos') (tRaiseC C W) :=
  ps_raise hc tk (pmk_own PySem.F.excBase_ValueError c.x c.g c.k (raises_own c.b c.t) hg hdb)
theorem ps_raiseE (hc : X.calm = true) (tk : Takes X W) (c : XCl X.K X.mg x C) (hg : Gl X x) (he : PE X e ta) (hs : starEach [e] X.env = (false, eval e X.env) :: starEach [] X.env := by rfl) (hdb : (x == ("__debug__" : Str)) = false := by decide) :
    PS X (.Raise (some (.Call (.Name x p) [e] [] pos)) none pos') (tRaiseE C W ta) :=
  ps_raise hc tk (SkE.pmk_own1 PySem.F.excBase_ValueError c.x c.g c.k (raises_own c.b c.t) hg he hs hdb)
end
/-! ### try -/
def tTryV (K : PySem.W.Frag) (c : Value) (i : Nat) (ts : TS) (tb : WX → TS) : TS := fun D σ H => tb (wVal K c i (fun _ _ => ts) (fun _ _ _ _ => False) D) D σ H
theorem r_tryV {K : PySem.W.Frag} {c : Value} {i : Nat} {ts : TS} {tb : WX → TS} {D : Ends} {σ : L2.St} {H : Hp} (h : tb (wVal K c i (fun _ _ => ts) (fun _ _ _ _ => False) D) D σ H) : tTryV K c i ts tb D σ H := h
theorem w_val {K : PySem.W.Frag} {c cls : Value} {i : Nat} {ts : TS} {D : Ends} {σ : L2.St} {H : Hp} (hm : PySem.W.exmOne K cls c = some true)
    (h : ∀ a, H a = none → ts { nx := fun σ' H' => D.nx (σ'.set i none) (upd H' a (ExV cls a)), rt := D.rt, bk := fun _ _ => False, ct := fun _ _ => False } (σ.set i (some (.ref a))) H) : wVal K c i (fun _ _ => ts) (fun _ _ _ _ => False) D cls none σ H :=
  ⟨rfl, true, hm, fun _ a ha => h a ha, fun z => nomatch z⟩
section
variable {X : Cx} {x n : Str} {c : Value} {i : Nat} {body suite : List Stmt} {b₀ : Stmt} {np pos pos' : Pos} {tb : WX → TS} {ts : TS}
theorem ps_tryV (hs : X.stack = X.env :: X.outer) (hf : X.env.frame = some X.env.locals) (hN : X.N.Nodup) (hi : X.N[i]? = some n) (hln : X.env.kindOf n = some .local) (hc : Names X x c) (hex : X.ex = [])
    (hb : ∀ (W : WX) (pn : List (Addr × Obj)) (xe : Value → Shared → Prop), Takes (X.tr pn xe) W → PassesOwn (model X.prog X.w) X.A X.env xe → PSs (X.tr pn xe) body (tb W))
    (hsu : ∀ (a : Addr) (oe : Obj) (pn : List (Addr × Obj)), PSs (X.suite a ((a, oe) :: pn)) (b₀ :: suite) ts) :
    PS X (.Try body [.ExceptHandler (some (.Name x np)) (some n) (b₀ :: suite) pos'] [] [] pos) (tTryV X.K c i ts tb) :=
  ps_try_val (tb := tb) (ts := fun _ _ => ts) hs hf hN hi hln hc takes0 hex (fun W pn xe tk po => hb W pn xe tk po) fun a oe _ pn => hsu a oe pn
end
theorem v_isiN {K : PySem.W.Frag} {H : Hp} {Q : VK} {n : String} {b : Bool} (e : kitB "NoneType" n = some b) (k : Q (.bl b) H) : rIsi K [.non, .ty n] H Q := v_isi (.ty n) (.base .non) (kit_ty e) k
theorem v_isV {K : PySem.W.Frag} {a D : Addr} {c : V} {u : Value} {b : Bool} {H : Hp} {Q : VK} (h : H a = some (ExV (.ref D) a)) (d : ExcC K D) (hc : ClsV c u) (e : PySem.W.kitOne K (.ref D) u = some b) (q : Q (.bl b) H) : uIsV K [.ref a, c] H Q := ⟨a, D, c, u, b, rfl, h, d, hc, e, q⟩
/-! ### list(d.values()), xs.remove(k) -/
/-- a view of the values of the dict at a -/
def ValO (a p : Addr) : HO := .ext fun h => h.IsValuesView p a
def rDVals : V → List V → Hp → VK → Prop := fun x xs H Q => ∃ (a : Addr) (kvs : List (L2.Key × V)), x = .ref a ∧ xs = [] ∧ H a = some (.dK kvs) ∧ ∀ p, H p = none → Q (.ref p) (upd H p (ValO a p))
def rListV : List V → Hp → VK → Prop := fun xs H Q => ∃ (a p : Addr) (kvs : List (L2.Key × V)), xs = [.ref p] ∧ H p = some (ValO a p) ∧ H a = some (.dK kvs) ∧ ∀ q, H q = none → Q (.ref q) (upd H q (.lst (kvs.map (·.2))))
section
variable {X : Cx}
theorem mt_dvals : MtR X "dict.values" rDVals := by
  intro pins s σ H x xs v us Q I rx r h
  obtain ⟨a, kvs, rfl, rfl, ha, q⟩ := h
  obtain rfl : v = Value.ref a := rx
  cases r
  obtain ⟨_, hsys, vs, rel, dof⟩ := dk_of I.hok ha
  obtain ⟨ep, dat⟩ := dof.dictAt
  obtain ⟨ob, es, ho, ex, hdat, hko, hpr, hnd⟩ := id dat
  refine call_meetsIn F.slot_dict_values ⟨ob, ho, ex.1⟩ F.entry_dict_values (F.args_dict_values_1 _) (meets_dict_values (mixKind X.prog X.w) a hsys) ⟨⟨vs, dof⟩, ?_⟩
  exact ⟨.ref s.heap.objs.size, upd H s.heap.objs.size (ValO a s.heap.objs.size), I.laid (t' := s.toks) (fun b u e => Heap.get?_push_of_some _ e) (Nat.le_refl _) ⟨⟨_, Heap.get?_push_size _ rfl, rfl, rfl⟩, ⟨_, Heap.get?_push_size _ rfl⟩, fun _ _ ⟨o, e, z⟩ k => ⟨o, k o e, z⟩⟩, rfl, q _ (I.hok.fresh (Nat.le_refl _))⟩
theorem k_listV (hc : X.calm = true) : CallR X (.type "list") rListV := by
  intro pins s σ H xs us Q I r h
  obtain ⟨a, p, kvs, rfl, hp, ha, q⟩ := h
  obtain ⟨u, rfl, rx⟩ := vals1 r
  obtain rfl : u = Value.ref p := rx
  obtain ⟨view, _⟩ := I.hok p _ hp
  obtain ⟨z, hsys, vs, rel, dof⟩ := dk_of I.hok ha
  obtain ⟨ep, dat⟩ := dof.dictAt
  have hl : kvs.length = vs.length := KV.length rel
  refine PySem.W.kdl_call (PySem.W.kdl_values (knd := mixKind X.prog X.w) (kvs := vs) (ep := ep)) (I.ok.hd hc) ⟨view, dat⟩ (by rw [← hl]; exact z) fun h' tk acc' c' hkeep hS hacc => ?_
  refine ⟨.ref s.heap.objs.size, upd H s.heap.objs.size (.lst (kvs.map (·.2))), I.laid (t' := tk) hkeep (Nat.le_refl _) (show ObjOk X.prog X.w _ _ _ (.lst (kvs.map (·.2))) from ⟨by rw [List.length_map]; exact z, acc'.toList, c', ?_, by rw [Array.toArray_toList]; exact hS⟩), rfl, q _ (I.hok.fresh (Nat.le_refl _))⟩
  have el : acc'.toList.length = acc'.size := by simp
  refine vals_of_at (by rw [List.length_map, el, hacc.1, hl]) fun j x w h1 h2 => ?_
  obtain ⟨k, hk⟩ := hacc.2 j w (by rw [← Array.getElem?_toList]; exact h2)
  obtain ⟨x', e1, e2⟩ := KV.at' rel hk
  rw [List.getElem?_map, e1] at h1
  cases h1
  exact e2
end
theorem v_dvals {a : Addr} {kvs : List (L2.Key × V)} {H : Hp} {Q : VK} (h : H a = some (.dK kvs)) (k : ∀ p, H p = none → Q (.ref p) (upd H p (ValO a p))) : rDVals (.ref a) [] H Q := ⟨a, kvs, rfl, rfl, h, k⟩
theorem r_dvals {K : PySem.W.Frag} {a : Addr} {kvs : List (L2.Key × V)} {H : Hp} {Q : VK} {σ : L2.St} (h : H a = some (.dK kvs)) (k : ∀ p, H p = none → Q (.ref p) (upd H p (ValO a p))) : kBM K "dict" rDVals tNil σ (.ref a) H Q := ⟨.inr (.inr (.inl ⟨rfl, .inl ⟨kvs, h⟩⟩)), v_dvals h k⟩
theorem v_listV {a p : Addr} {kvs : List (L2.Key × V)} {H : Hp} {Q : VK} (h : H p = some (ValO a p)) (h2 : H a = some (.dK kvs)) (k : ∀ q, H q = none → Q (.ref q) (upd H q (.lst (kvs.map (·.2))))) : rListV [.ref p] H Q := ⟨a, p, kvs, rfl, h, h2, k⟩
theorem r_remX {K : PySem.W.Frag} {W : WX} {to te : TE} {σ : L2.St} {H : Hp} {Q : VK} (h : to σ H fun x H1 => tyV K "list" x H1 ∧ te σ H1 fun y H2 => ∃ (l : Addr) (ns : List Int) (k : Int), x = .ref l ∧ y = .int k ∧ H2 l = some (.lst (ns.map V.int)) ∧
  (k ∈ ns → Q .non (upd H2 l (.lst ((ns.erase k).map V.int)))) ∧ (k ∉ ns → ∀ d, W (.type "ValueError") d σ H2)) : tRemX K W to te σ H Q := h
end Hm

/-! F5: values. Rp W H v d: v is the data d, all its objects outside of W. -/
namespace Hm
open PySem PySem.Spec PyProof.Rows L2
mutual
inductive Rp (W : Addr → Prop) (H : Hp) : V → PyData → Prop
  | non : Rp W H .non .none
  | bl (b : Bool) : Rp W H (.bl b) (.bool b)
  | int (i : Int) : Rp W H (.int i) (.int i)
  | str (x : Str) : Rp W H (.str x) (.str x)
  | lst {a : Addr} {xs : List V} {ds : List PyData} : H a = some (.lst xs) → ¬ W a → RpA W H xs ds → Rp W H (.ref a) (.list ds)
  | tup {a : Addr} {xs : List V} {ds : List PyData} : H a = some (.tup xs) → ¬ W a → RpA W H xs ds → Rp W H (.ref a) (.tuple ds)
inductive RpA (W : Addr → Prop) (H : Hp) : List V → List PyData → Prop
  | nil : RpA W H [] []
  | cons {v : V} {vs : List V} {d : PyData} {ds : List PyData} : Rp W H v d → RpA W H vs ds → RpA W H (v :: vs) (d :: ds)
end
section
variable {W W' : Addr → Prop} {H H' : Hp} {K : PySem.W.Frag}
mutual
theorem Rp.move (f : ∀ a o, ¬ W a → H a = some o → H' a = some o ∧ ¬ W' a) : ∀ (d : PyData) (v : V), Rp W H v d → Rp W' H' v d
  | .none, _, h => by cases h; exact .non
  | .bool b, _, h => by cases h; exact .bl b
  | .int i, _, h => by cases h; exact .int i
  | .str x, _, h => by cases h; exact .str x
  | .list ds, _, h => by
    cases h with
    | lst e n r => exact .lst (f _ _ n e).1 (f _ _ n e).2 (RpA.move f ds _ r)
  | .tuple ds, _, h => by
    cases h with
    | tup e n r => exact .tup (f _ _ n e).1 (f _ _ n e).2 (RpA.move f ds _ r)
  | .dict _, _, h => by cases h
theorem RpA.move (f : ∀ a o, ¬ W a → H a = some o → H' a = some o ∧ ¬ W' a) : ∀ (ds : List PyData) (vs : List V), RpA W H vs ds → RpA W' H' vs ds
  | [], _, h => by cases h; exact .nil
  | d :: ds, _, h => by
    cases h with
    | cons r s => exact .cons (Rp.move f d _ r) (RpA.move f ds _ s)
end
mutual
theorem Rp.dp : ∀ (d : PyData) (v : V), Rp W H v d → Dp K H v d
  | .none, _, h => by cases h; exact .non
  | .bool b, _, h => by cases h; exact .bl b
  | .int i, _, h => by cases h; exact .int i
  | .str x, _, h => by cases h; exact .str x
  | .list ds, _, h => by
    cases h with
    | lst e n r => exact .lst (SqL.of e) (RpA.dp ds _ r)
  | .tuple ds, _, h => by
    cases h with
    | tup e n r => exact .tup (SqT.of e) (RpA.dp ds _ r)
  | .dict _, _, h => by cases h
theorem RpA.dp : ∀ (ds : List PyData) (vs : List V), RpA W H vs ds → DpAll K H vs ds
  | [], _, h => by cases h; exact .nil
  | d :: ds, _, h => by
    cases h with
    | cons r s => exact .cons (Rp.dp d _ r) (RpA.dp ds _ s)
end
theorem Rp.keep {v : V} {d : PyData} (h : Rp W H v d) (k : Keep W H H') : Rp W H' v d := Rp.move (fun a o n e => ⟨k a o n e, n⟩) d v h
theorem RpA.keep {v : List V} {d : List PyData} (h : RpA W H v d) (k : Keep W H H') : RpA W H' v d := RpA.move (fun a o n e => ⟨k a o n e, n⟩) d v h
theorem Rp.same {v : V} {d : PyData} (h : Rp W H v d) (k : Keep Nil H H') : Rp W H' v d := h.keep k.weak
theorem RpA.same {v : List V} {d : List PyData} (h : RpA W H v d) (k : Keep Nil H H') : RpA W H' v d := h.keep k.weak
theorem Rp.sub {v : V} {d : PyData} (h : Rp W H v d) (s : ∀ x, W' x → W x) : Rp W' H v d := Rp.move (fun a o n e => ⟨e, fun z => n (s _ z)⟩) d v h
theorem RpA.sub {v : List V} {d : List PyData} (h : RpA W H v d) (s : ∀ x, W' x → W x) : RpA W' H v d := RpA.move (fun a o n e => ⟨e, fun z => n (s _ z)⟩) d v h
/-- a new cell may be marked as one that changes -/
theorem Rp.own {v : V} {d : PyData} {p : Addr} (h : Rp W H v d) (hp : H p = none) : Rp (fun x => W x ∨ x = p) H v d :=
  Rp.move (fun a o n e => ⟨e, fun z => z.elim n (ne_of_none e hp)⟩) d v h
theorem RpA.own {v : List V} {d : List PyData} {p : Addr} (h : RpA W H v d) (hp : H p = none) : RpA (fun x => W x ∨ x = p) H v d :=
  RpA.move (fun a o n e => ⟨e, fun z => z.elim n (ne_of_none e hp)⟩) d v h
/-- W' is W and cells that are new at H -/
theorem Rp.grow {v : V} {d : PyData} (h : Rp W H v d) (s : ∀ x, W' x → W x ∨ H x = none) : Rp W' H v d :=
  Rp.move (fun a o n e => ⟨e, fun z => (s _ z).elim n fun w => by rw [e] at w; cases w⟩) d v h
theorem RpA.grow {v : List V} {d : List PyData} (h : RpA W H v d) (s : ∀ x, W' x → W x ∨ H x = none) : RpA W' H v d :=
  RpA.move (fun a o n e => ⟨e, fun z => (s _ z).elim n fun w => by rw [e] at w; cases w⟩) d v h
theorem Rp.list_ {v : V} {ds : List PyData} (h : Rp W H v (.list ds)) : ∃ a xs, v = .ref a ∧ H a = some (.lst xs) ∧ ¬ W a ∧ RpA W H xs ds := by
  cases h with
  | lst e n r => exact ⟨_, _, rfl, e, n, r⟩
theorem Rp.tuple_ {v : V} {ds : List PyData} (h : Rp W H v (.tuple ds)) : ∃ a xs, v = .ref a ∧ H a = some (.tup xs) ∧ ¬ W a ∧ RpA W H xs ds := by
  cases h with
  | tup e n r => exact ⟨_, _, rfl, e, n, r⟩
theorem Rp.int_ {v : V} {i : Int} (h : Rp W H v (.int i)) : v = .int i := by cases h; rfl
theorem Rp.str_ {v : V} {i : Str} (h : Rp W H v (.str i)) : v = .str i := by cases h; rfl
theorem Rp.bool_ {v : V} {i : Bool} (h : Rp W H v (.bool i)) : v = .bl i := by cases h; rfl
theorem Rp.none_ {v : V} (h : Rp W H v .none) : v = .non := by cases h; rfl
theorem RpA.nil_ {vs : List V} (h : RpA W H vs []) : vs = [] := by cases h; rfl
theorem RpA.cons_ {vs : List V} {d : PyData} {ds : List PyData} (h : RpA W H vs (d :: ds)) : ∃ v r, vs = v :: r ∧ Rp W H v d ∧ RpA W H r ds := by
  cases h with
  | cons r s => exact ⟨_, _, rfl, r, s⟩
theorem Rp.two {v : V} {d e : PyData} (h : Rp W H v (.tuple [d, e])) : ∃ a x y, v = .ref a ∧ H a = some (.tup [x, y]) ∧ ¬ W a ∧ Rp W H x d ∧ Rp W H y e := by
  obtain ⟨a, xs, rfl, e, n, r⟩ := h.tuple_
  obtain ⟨x, _, rfl, r1, r⟩ := r.cons_
  obtain ⟨y, _, rfl, r2, r⟩ := r.cons_
  cases r.nil_
  exact ⟨a, x, y, rfl, e, n, r1, r2⟩
theorem Rp.mk2 {a : Addr} {x y : V} {d e : PyData} (h : H a = some (.tup [x, y])) (n : ¬ W a) (r1 : Rp W H x d) (r2 : Rp W H y e) : Rp W H (.ref a) (.tuple [d, e]) := .tup h n (.cons r1 (.cons r2 .nil))
theorem RpA.len : ∀ {ds : List PyData} {vs : List V}, RpA W H vs ds → vs.length = ds.length
  | [], _, h => by rw [h.nil_]; rfl
  | d :: ds, _, h => by
    obtain ⟨v, r, rfl, _, h⟩ := h.cons_
    rw [List.length_cons, List.length_cons, h.len]
theorem RpA.at_ : ∀ {ds : List PyData} {vs : List V} {i : Nat} {d : PyData}, RpA W H vs ds → ds[i]? = some d → ∃ v, vs[i]? = some v ∧ Rp W H v d
  | [], _, _, _, _, e => by simp at e
  | d :: ds, _, i, x, h, e => by
    obtain ⟨v, r, rfl, h1, h⟩ := h.cons_
    cases i with
    | zero => simp at e; subst e; exact ⟨v, rfl, h1⟩
    | succ i =>
      obtain ⟨w, e1, e2⟩ := h.at_ (i := i) (by simpa using e)
      exact ⟨w, by simpa using e1, e2⟩
theorem RpA.at' {ds : List PyData} {vs : List V} {i : Nat} {v : V} (h : RpA W H vs ds) (e : vs[i]? = some v) : ∃ d, ds[i]? = some d ∧ Rp W H v d := by
  have hi : i < ds.length := by rw [← h.len]; exact (List.getElem?_eq_some_iff.mp e).1
  obtain ⟨w, e1, e2⟩ := h.at_ (List.getElem?_eq_getElem hi)
  rw [e] at e1; cases e1
  exact ⟨_, List.getElem?_eq_getElem hi, e2⟩
theorem RpA.app : ∀ {ds es : List PyData} {vs us : List V}, RpA W H vs ds → RpA W H us es → RpA W H (vs ++ us) (ds ++ es)
  | [], _, _, _, h, k => by rw [h.nil_]; exact k
  | d :: ds, _, _, _, h, k => by
    obtain ⟨v, r, rfl, h1, h⟩ := h.cons_
    exact .cons h1 (h.app k)
theorem RpA.snoc {ds : List PyData} {vs : List V} {v : V} {d : PyData} (h : RpA W H vs ds) (k : Rp W H v d) : RpA W H (vs ++ [v]) (ds ++ [d]) := h.app (.cons k .nil)
theorem RpA.take : ∀ (n : Nat) {ds : List PyData} {vs : List V}, RpA W H vs ds → RpA W H (vs.take n) (ds.take n)
  | 0, _, _, _ => by simp; exact .nil
  | n + 1, [], _, h => by rw [h.nil_]; simp; exact .nil
  | n + 1, d :: ds, _, h => by
    obtain ⟨v, r, rfl, h1, h⟩ := h.cons_
    exact .cons h1 (h.take n)
theorem RpA.drop : ∀ (n : Nat) {ds : List PyData} {vs : List V}, RpA W H vs ds → RpA W H (vs.drop n) (ds.drop n)
  | 0, _, _, h => h
  | n + 1, [], _, h => by rw [h.nil_]; simp; exact .nil
  | n + 1, d :: ds, _, h => by
    obtain ⟨v, r, rfl, h1, h⟩ := h.cons_
    exact h.drop n
theorem RpA.rev : ∀ {ds : List PyData} {vs : List V}, RpA W H vs ds → RpA W H vs.reverse ds.reverse
  | [], _, h => by rw [h.nil_]; exact .nil
  | d :: ds, _, h => by
    obtain ⟨v, r, rfl, h1, h⟩ := h.cons_
    rw [List.reverse_cons, List.reverse_cons]
    exact h.rev.snoc h1
theorem RpA.ints_ : ∀ {l : List Int} {vs : List V}, RpA W H vs (l.map .int) → vs = l.map V.int
  | [], _, h => h.nil_
  | x :: l, _, h => by
    obtain ⟨v, r, rfl, h1, h⟩ := h.cons_
    rw [h1.int_, h.ints_]; rfl
theorem RpA.ints : ∀ (l : List Int), RpA W H (l.map V.int) (l.map .int)
  | [] => .nil
  | x :: l => .cons (.int x) (RpA.ints l)
theorem RpA.strs_ : ∀ {l : List Str} {vs : List V}, RpA W H vs (l.map .str) → vs = l.map V.str
  | [], _, h => h.nil_
  | x :: l, _, h => by
    obtain ⟨v, r, rfl, h1, h⟩ := h.cons_
    rw [h1.str_, h.strs_]; rfl
theorem RpA.strs : ∀ (l : List Str), RpA W H (l.map V.str) (l.map .str)
  | [] => .nil
  | x :: l => .cons (.str x) (RpA.strs l)
end
/-- data of ints -/
abbrev dI (l : List Int) : PyData := .list (l.map PyData.int)
theorem Rp.ints_ {W : Addr → Prop} {H : Hp} {v : V} {l : List Int} (h : Rp W H v (dI l)) : ∃ a, v = .ref a ∧ H a = some (.lst (l.map V.int)) ∧ ¬ W a := by
  obtain ⟨a, xs, rfl, e, n, r⟩ := h.list_
  rw [r.ints_] at e
  exact ⟨a, rfl, e, n⟩
theorem Rp.ints {W : Addr → Prop} {H : Hp} {a : Addr} {l : List Int} (h : H a = some (.lst (l.map V.int))) (n : ¬ W a) : Rp W H (.ref a) (dI l) := .lst h n (RpA.ints l)
/-! ### data that Python tells apart as we do -/
mutual
def pl : PyData → Bool
  | .none => true
  | .int _ => true
  | .str x => (PyData.str x).canLay0
  | .bool _ => false
  | .dict _ => false
  | .list ds => plA ds
  | .tuple ds => plA ds
def plA : List PyData → Bool
  | [] => true
  | d :: ds => pl d && plA ds
end
mutual
theorem eqv_iff : ∀ (d e : PyData), pl d = true → pl e = true → (PyData.eqv d e = true ↔ d = e)
  | .none, e, _, _ => by cases e <;> simp [PyData.eqv]
  | .int i, e, _, h => by cases e <;> simp [PyData.eqv] <;> simp [pl] at h
  | .str i, e, _, _ => by cases e <;> simp [PyData.eqv]
  | .bool _, _, h, _ => by simp [pl] at h
  | .dict _, _, h, _ => by simp [pl] at h
  | .list ds, e, h, k => by
    cases e <;> simp [PyData.eqv]
    exact eqvA_iff ds _ (by simpa [pl] using h) (by simpa [pl] using k)
  | .tuple ds, e, h, k => by
    cases e <;> simp [PyData.eqv]
    exact eqvA_iff ds _ (by simpa [pl] using h) (by simpa [pl] using k)
theorem eqvA_iff : ∀ (ds es : List PyData), plA ds = true → plA es = true → (PyData.eqvAll ds es = true ↔ ds = es)
  | [], es, _, _ => by cases es <;> simp [PyData.eqvAll]
  | d :: ds, es, h, k => by
    cases es with
    | nil => simp [PyData.eqvAll]
    | cons e es =>
      rw [plA, Bool.and_eq_true] at h k
      simp only [PyData.eqvAll, Bool.and_eq_true, List.cons.injEq]
      rw [eqv_iff d e h.1 k.1, eqvA_iff ds es h.2 k.2]
end
theorem plA_mem : ∀ {ds : List PyData}, plA ds = true ↔ ∀ d ∈ ds, pl d = true
  | [] => by simp [plA]
  | d :: ds => by simp [plA, plA_mem (ds := ds)]
theorem plA_map {α : Type} {f : α → PyData} {l : List α} (h : ∀ x, pl (f x) = true) : plA (l.map f) = true := plA_mem.mpr fun d hd => by
  obtain ⟨x, _, rfl⟩ := List.mem_map.mp hd
  exact h x
open Classical in
theorem eqv_dec {d e : PyData} (h : pl d = true) (k : pl e = true) : PyData.eqv d e = decide (d = e) := by
  by_cases z : d = e
  · rw [decide_eq_true z]; exact (eqv_iff d e h k).mpr z
  · rw [decide_eq_false z]
    cases q : PyData.eqv d e with
    | false => rfl
    | true => exact absurd ((eqv_iff d e h k).mp q) z
theorem eqv_inj {α : Type} [DecidableEq α] {f : α → PyData} (hp : ∀ x, pl (f x) = true) (inj : ∀ x y, f x = f y → x = y) (a b : α) : PyData.eqv (f a) (f b) = decide (a = b) := by
  by_cases z : a = b
  · subst z; rw [decide_eq_true rfl]; exact (eqv_iff _ _ (hp _) (hp _)).mpr rfl
  · rw [decide_eq_false z]
    cases q : PyData.eqv (f a) (f b) with
    | false => rfl
    | true => exact absurd (inj _ _ ((eqv_iff _ _ (hp _) (hp _)).mp q)) z
mutual
theorem lay_pl : ∀ d : PyData, pl d = true → d.canLay0 = true
  | .none, _ => rfl
  | .int _, _ => rfl
  | .str _, h => by simpa [pl] using h
  | .bool _, h => by simp [pl] at h
  | .dict _, h => by simp [pl] at h
  | .list ds, h => by simp only [PyData.canLay0]; exact layA_pl ds (by simpa [pl] using h)
  | .tuple ds, h => by simp only [PyData.canLay0]; exact layA_pl ds (by simpa [pl] using h)
theorem layA_pl : ∀ ds : List PyData, plA ds = true → PyData.canLayAll0 ds = true
  | [], _ => by simp [PyData.canLayAll0]
  | d :: ds, h => by
    rw [plA, Bool.and_eq_true] at h
    simp [PyData.canLayAll0, lay_pl d h.1, layA_pl ds h.2]
end
theorem sh_pl {d : PyData} (h : pl d = true) (k : d.depth ≤ 64) : SeqAt.shaped d = true := by
  show (d.canLay0 && decide (d.depth ≤ 64)) = true
  rw [Bool.and_eq_true]
  exact ⟨lay_pl d h, decide_eq_true k⟩
theorem depthA_le {n : Nat} : ∀ {ds : List PyData}, (∀ d ∈ ds, d.depth ≤ n) → PyData.depthAll ds ≤ n
  | [], _ => by simp [PyData.depthAll]
  | d :: ds, h => by
    have h1 := h d List.mem_cons_self
    have h2 := depthA_le fun x hx => h x (List.mem_cons_of_mem _ hx)
    simp only [PyData.depthAll]; omega
theorem depth_list {n : Nat} {ds : List PyData} (h : ∀ d ∈ ds, d.depth ≤ n) : (PyData.list ds).depth ≤ n + 1 := by
  have := depthA_le h
  simp only [PyData.depth]; omega
theorem depth_tup {n : Nat} {ds : List PyData} (h : ∀ d ∈ ds, d.depth ≤ n) : (PyData.tuple ds).depth ≤ n + 1 := by
  have := depthA_le h
  simp only [PyData.depth]; omega
theorem depth_ints (l : List Int) : (PyData.list (l.map PyData.int)).depth ≤ 64 := by
  have := depth_list (n := 1) (ds := l.map PyData.int) fun d hd => by
    obtain ⟨x, _, rfl⟩ := List.mem_map.mp hd
    simp [PyData.depth]
  omega
theorem pl_ints (l : List Int) : pl (.list (l.map PyData.int)) = true := by
  show plA _ = true
  exact plA_map fun x => rfl
theorem sh_ints (l : List Int) : SeqAt.shaped (.list (l.map PyData.int)) = true := sh_pl (pl_ints l) (depth_ints l)
/-! ### what is new is none of what changes -/
def Al (W : Addr → Prop) (H : Hp) : Prop := ∀ x, H x = none → ¬ W x
theorem Al.same {W : Addr → Prop} {H H' : Hp} (a : Al W H) (k : Keep Nil H H') : Al W H' := fun x hx => a x (keep_none k hx)
theorem Al.nil {H : Hp} : Al Nil H := fun _ _ z => z
theorem Al.or {W V : Addr → Prop} {H : Hp} (a : Al W H) (b : Al V H) : Al (fun x => W x ∨ V x) H := fun x hx z => z.elim (a x hx) (b x hx)
theorem Al.one {W : Addr → Prop} {H : Hp} {p : Addr} {o : HO} (a : Al W H) (h : H p = some o) : Al (fun x => W x ∨ x = p) H := fun x hx z => z.elim (a x hx) fun e => by rw [e, h] at hx; cases hx
section
variable {W : Addr → Prop} {H : Hp} {K : PySem.W.Frag} {P : Program} {w : World} {Q : VK} {x y : V} {d e : PyData}
theorem v_addV {ds es : List PyData} (al : Al W H) (h1 : Rp W H x (.list ds)) (h2 : Rp W H y (.list es)) (few : ds.length + es.length ≤ 100000) (k : ∀ (p : Addr) (H' : Hp), Keep Nil H H' → Rp W H' (.ref p) (.list (ds ++ es)) → Q (.ref p) H') : bAdd K x y H Q := by
  obtain ⟨a, xs, rfl, e1, n1, r1⟩ := h1.list_
  obtain ⟨b, ys, rfl, e2, n2, r2⟩ := h2.list_
  refine v_addL e1 e2 (few2 (by rw [r1.len, r2.len]; exact few)) fun p hp => k p _ (Keep.alloc hp) ?_
  have kk : Keep Nil H (upd H p (.lst (xs ++ ys))) := Keep.alloc hp
  exact .lst upd_same (al p hp) ((r1.same kk).app (r2.same kk))
theorem v_eqV (h1 : Rp W H x d) (h2 : Rp W H y e) (s1 : SeqAt.shaped d = true) (s2 : SeqAt.shaped e = true) (k : Q (.bl (PyData.eqv d e)) H) : cEq K x y H Q := .inr ⟨d, e, Rp.dp _ _ h1, Rp.dp _ _ h2, s1, s2, k⟩
theorem v_neV (h1 : Rp W H x d) (h2 : Rp W H y e) (s1 : SeqAt.shaped d = true) (s2 : SeqAt.shaped e = true) (k : Q (.bl (!PyData.eqv d e)) H) : cNe K x y H Q := .inr ⟨d, e, Rp.dp _ _ h1, Rp.dp _ _ h2, s1, s2, k⟩
theorem v_inV {ds : List PyData} (h1 : Rp W H x d) (h2 : Rp W H y (.list ds)) (s1 : SeqAt.shaped d = true) (s2 : SeqAt.shaped (.list ds) = true) (k : Q (.bl (ds.any fun z => PyData.eqv z d)) H) : cIn P w K x y H Q := .inr (.inl ⟨d, ds, Rp.dp _ _ h1, Rp.dp _ _ h2, s1, s2, k⟩)
theorem v_ninV {ds : List PyData} (h1 : Rp W H x d) (h2 : Rp W H y (.list ds)) (s1 : SeqAt.shaped d = true) (s2 : SeqAt.shaped (.list ds) = true) (k : Q (.bl (!ds.any fun z => PyData.eqv z d)) H) : cNotIn P w K x y H Q := .inr (.inl ⟨d, ds, Rp.dp _ _ h1, Rp.dp _ _ h2, s1, s2, k⟩)
end
/-! ### len(set(..)) -/
def kLenS (w : World) : List V → Hp → VK → Prop := fun xs H Q => ∃ (a : Addr) (S : Int → Bool) (n : Nat), xs = [.ref a] ∧ H a = some (SetO w a S n) ∧ ∀ es : List Int, es.Nodup → (∀ z : Int, S z = true ↔ z ∈ es) → es.length = n → Q (.int n) H
theorem k_lenS {X : Cx} : CallR X (.builtin "len") (kLenS X.w) := by
  intro pins s σ H xs us Q I r h
  obtain ⟨a, S, n, rfl, ha, q⟩ := h
  obtain ⟨o, es, ep, t, ho, hex, hd, good, nd, mem, few, fits, num, _⟩ := setO_get I ha
  rw [Vals.ref1 r]
  have hs : scanBound = 4096 := rfl
  refine call_len_set ho hex hd fits (by omega) ?_
  rw [num]
  exact ⟨.int n, H, (I.tok _).tok _, ⟨_, rfl⟩, q (es.toList.map keyOf) nd mem (by rw [List.length_map, Array.length_toList]; exact num)⟩
theorem v_lenS {w : World} {a : Addr} {ns : List Int} {n : Nat} {H : Hp} {Q : VK} (h : H a = some (SetO w a (fun j => decide (j ∈ ns)) n)) (k : ∀ es : List Int, es.Nodup → (∀ z : Int, z ∈ es ↔ z ∈ ns) → Q (.int es.length) H) : kLenS w [.ref a] H Q :=
  ⟨a, _, n, rfl, h, fun es nd m l => l ▸ k es nd fun z => by rw [← m z, decide_eq_true_iff]⟩
/-! ### walks -/
/-- the walk J yields the data ds, outside of W, whatever of N changes -/
structure Yv (N W : Addr → Prop) (J : It) (H0 : Hp) (ds : List PyData) : Prop where
  go : ∀ (H : Hp) (i : Nat), Keep N H0 H → i < ds.length → J.go i H
  stop : ∀ (H : Hp), Keep N H0 H → J.stop ds.length H
  yld : ∀ (H H' : Hp) (i : Nat) (x : V) (d : PyData), Keep N H0 H → ds[i]? = some d → J.yld i H x H' → Keep Nil H H' ∧ Rp W H' x d
theorem yv_list {N W : Addr → Prop} {K : PySem.W.Frag} {H : Hp} {a : Addr} {xs : List V} {ds : List PyData} (h : H a = some (.lst xs)) (n : ¬ N a) (r : RpA W H xs ds) (s : ∀ x, N x → W x) : Yv N W (Itl K a) H ds := by
  refine ⟨fun H1 i k hi => ⟨xs, xs[i]'(by rw [r.len]; exact hi), SqL.of (k _ _ n h), List.getElem?_eq_getElem _⟩, fun H1 k => ⟨xs, SqL.of (k _ _ n h), by rw [r.len]; exact Nat.le_refl _⟩, fun H1 H2 i x d k e y => ?_⟩
  obtain ⟨rfl, y⟩ := y
  obtain ⟨v, e1, e2⟩ := r.at_ e
  have := y xs (SqL.of (k _ _ n h))
  rw [e1] at this; cases this
  exact ⟨Keep.refl, e2.keep (k.mono s)⟩
theorem yv_ints {N W : Addr → Prop} {K : PySem.W.Frag} {H : Hp} {a : Addr} {l : List Int} (h : H a = some (.lst (l.map V.int))) (n : ¬ N a) : Yv N W (Itl K a) H (l.map PyData.int) := by
  have y := yv_list (N := N) (W := N) (K := K) h n (RpA.ints l) (fun _ z => z)
  refine ⟨y.go, y.stop, fun H1 H2 i x d k e q => ?_⟩
  obtain ⟨k2, r⟩ := y.yld H1 H2 i x d k e q
  rw [List.getElem?_map] at e
  obtain ⟨z, _, rfl⟩ := Option.map_eq_some_iff.mp e
  rw [r.int_]
  exact ⟨k2, .int _⟩
theorem yv_tup {N W : Addr → Prop} {K : PySem.W.Frag} {H : Hp} {a : Addr} {xs : List V} {ds : List PyData} (h : H a = some (.tup xs)) (n : ¬ N a) (r : RpA W H xs ds) (s : ∀ x, N x → W x) : Yv N W (Itt K a) H ds := by
  refine ⟨fun H1 i k hi => ⟨xs, xs[i]'(by rw [r.len]; exact hi), SqT.of (k _ _ n h), List.getElem?_eq_getElem _⟩, fun H1 k => ⟨xs, SqT.of (k _ _ n h), by rw [r.len]; exact Nat.le_refl _⟩, fun H1 H2 i x d k e y => ?_⟩
  obtain ⟨rfl, y⟩ := y
  obtain ⟨v, e1, e2⟩ := r.at_ e
  have := y xs (SqT.of (k _ _ n h))
  rw [e1] at this; cases this
  exact ⟨Keep.refl, e2.keep (k.mono s)⟩
def rng (lo : Int) (n : Nat) : List PyData := (List.range n).map fun i => PyData.int (lo + (i : Nat))
theorem rng_len (lo : Int) (n : Nat) : (rng lo n).length = n := by unfold rng; rw [List.length_map, List.length_range]
theorem rng_get {lo : Int} {n i : Nat} {d : PyData} (h : (rng lo n)[i]? = some d) : i < n ∧ d = .int (lo + (i : Nat)) := by
  have hi : i < n := by have := (List.getElem?_eq_some_iff.mp h).1; rw [rng_len] at this; exact this
  unfold rng at h
  rw [List.getElem?_map, List.getElem?_range hi] at h
  exact ⟨hi, by simpa using h.symm⟩
theorem yv_rng {N W : Addr → Prop} {H : Hp} {lo : Int} {n : Nat} : Yv N W (Itr lo n) H (rng lo n) := by
  refine ⟨fun H1 i k hi => by rw [rng_len] at hi; exact hi, fun H1 k => by rw [rng_len]; exact Nat.le_refl _, fun H1 H2 i x d k e y => ?_⟩
  obtain ⟨rfl, rfl⟩ := y
  obtain ⟨_, rfl⟩ := rng_get e
  exact ⟨Keep.refl, .int _⟩
def signs (x : Str) : List PyData := x.cps.toList.map fun c => PyData.str ⟨#[c]⟩
theorem yv_str {N W : Addr → Prop} {H : Hp} {x : Str} : Yv N W (Its x) H (signs x) := by
  have len : (signs x).length = x.cps.size := by unfold signs; rw [List.length_map, Array.length_toList]
  refine ⟨fun H1 i k hi => by rw [len] at hi; exact hi, fun H1 k => by rw [len]; exact Nat.le_refl _, fun H1 H2 i v d k e y => ?_⟩
  obtain ⟨rfl, c, hc, rfl⟩ := y
  unfold signs at e
  rw [List.getElem?_map, Array.getElem?_toList, hc] at e
  cases e
  exact ⟨Keep.refl, .str _⟩
section
variable {J : It} {g : TG} {tt : TT} {te : TE} {vs : List Nat} {σ : L2.St} {H : Hp} {Q : VK}
/-- a comprehension that reads and makes new things alone -/
theorem lcT {α : Type} (W : Addr → Prop) (enc : α → PyData) (l : List α) (p : α → Bool) (f : α → PyData) (al : Al W H) (few : l.length < sizeLine) (Y : ∀ D, H D = none → Yv Nil (fun x => W x ∨ x = D) J H (l.map enc))
    (body : ∀ (D : Addr) (i : Nat) (x : V) (d : α) (H1 : Hp) (R : VK) (N : Hp → Prop), H D = none → l[i]? = some d → Keep Nil H H1 → Al (fun x => W x ∨ x = D) H1 → Rp (fun x => W x ∨ x = D) H1 x (enc d) →
      (∀ y H4, Keep Nil H1 H4 → Rp (fun x => W x ∨ x = D) H4 y (f d) → p d = true → R y H4) → (∀ H3, Keep Nil H1 H3 → p d = false → N H3) →
      g x (wipe σ vs) H1 fun σ2 H2 => wipe σ2 vs = wipe σ vs ∧ tt σ2 H2 fun b H3 => if b = true then te σ2 H3 R else N H3)
    (cont : ∀ (D : Addr) (H' : Hp), H D = none → Keep Nil H H' → Rp W H' (.ref D) (.list ((l.filter p).map f)) → Q (.ref D) H') : kLc J g tt te vs σ H Q := by
  intro D hD
  refine ⟨fun i m H' => m = l.length - i ∧ i ≤ l.length ∧ ∃ us, H' D = some (.lst us) ∧ RpA (fun x => W x ∨ x = D) H' us (((l.take i).filter p).map f) ∧ Keep Nil H H', ⟨_, rfl, Nat.zero_le _, [], upd_same, by simp; exact .nil, Keep.alloc hD⟩, ?_⟩
  rintro i m H1 ⟨rfl, hi, us, eD, ru, k1⟩
  have nD : ¬ W D := al D hD
  by_cases lt : i < l.length
  · refine .inr ⟨(Y D hD).go H1 i k1 (by rw [List.length_map]; exact lt), fun H' => ∃ us, H' D = some (.lst us) ∧ RpA (fun x => W x ∨ x = D) H' us (((l.take (i + 1)).filter p).map f) ∧ Keep Nil H H', fun H' h => ⟨l.length - (i + 1), by omega, rfl, lt, h⟩, fun x H2 hy => ?_⟩
    have hd := List.getElem?_eq_getElem lt
    obtain ⟨k2, rx⟩ := (Y D hD).yld H1 H2 i x (enc l[i]) k1 (by rw [List.getElem?_map, hd]; rfl) hy
    have k12 := k1.trans k2
    have eD2 := k2.get (fun z => z) eD
    have tk : l.take (i + 1) = l.take i ++ [l[i]] := by rw [List.take_succ, hd]; rfl
    refine body D i x _ H2 _ _ hD hd k12 ((al.same k12).one eD2) rx (fun y H5 k5 r5 hp => ?_) fun H4 k4 hp => ?_
    · have eD5 := k5.get (fun z => z) eD2
      have ru5 := ru.same (k2.trans k5)
      have kD : Keep (fun x => W x ∨ x = D) H5 (upd H5 D (.lst (us ++ [y]))) := Keep.refl.set (.inr rfl)
      refine ⟨us, eD5, ?_, us ++ [y], upd_same, ?_, (k12.trans k5).setN hD⟩
      · have h1 := ru.len
        have h2 := List.length_filter_le p (l.take i)
        rw [List.length_map] at h1
        rw [List.length_take] at h2
        omega
      · rw [tk, List.filter_append, List.map_append]
        have : [l[i]].filter p = [l[i]] := by simp [hp]
        rw [this]
        exact (ru5.keep kD).snoc (r5.keep kD)
    · refine ⟨us, k4.get (fun z => z) eD2, ?_, k12.trans k4⟩
      rw [tk, List.filter_append, List.map_append]
      have : [l[i]].filter p = [] := by simp [hp]
      rw [this, List.map_nil, List.append_nil]
      exact ru.same (k2.trans k4)
  · have e : i = l.length := by omega
    subst e
    rw [List.take_of_length_le (Nat.le_refl _)] at ru
    have st := (Y D hD).stop H1 k1
    rw [List.length_map] at st
    exact .inl ⟨st, cont D H1 hD k1 (.lst eD nD (ru.sub fun x h => .inl h))⟩
theorem filter_tt {α : Type} (l : List α) : (l.filter fun _ => true) = l := by simp
/-- a comprehension that changes W, by what is told of S; without a test -/
theorem lcS (W : Addr → Prop) (ds : List PyData) (S : Nat → List PyData → Hp → Prop) (few : ds.length < sizeLine) (al : Al W H) (Y : ∀ D, H D = none → Yv W (fun x => W x ∨ x = D) J H ds)
    (als : ∀ i out H1, S i out H1 → Al W H1)
    (S0 : S 0 [] H) (stab : ∀ D i out H1 H2, H D = none → Keep (fun x => x = D) H1 H2 → (∀ o, H1 D = some o → ∃ l, o = .lst l) → S i out H1 → S i out H2)
    (body : ∀ (D : Addr) (i : Nat) (x : V) (d : PyData) (out : List PyData) (H1 : Hp) (R : VK) (N : Hp → Prop), H D = none → ds[i]? = some d → out.length = i → Keep W H H1 → Al (fun x => W x ∨ x = D) H1 → Rp (fun x => W x ∨ x = D) H1 x d → S i out H1 →
      (∀ y H4 e, Keep W H1 H4 → Rp (fun x => W x ∨ x = D) H4 y e → S (i + 1) (out ++ [e]) H4 → R y H4) →
      g x (wipe σ vs) H1 fun σ2 H2 => wipe σ2 vs = wipe σ vs ∧ tYes σ2 H2 fun b H3 => if b = true then te σ2 H3 R else N H3)
    (cont : ∀ (D : Addr) (H' : Hp) (out : List PyData), H D = none → out.length = ds.length → Keep W H H' → S ds.length out H' → Rp W H' (.ref D) (.list out) → Q (.ref D) H') : kLc J g tYes te vs σ H Q := by
  intro D hD
  have nD : ¬ W D := al D hD
  refine ⟨fun i m H' => m = ds.length - i ∧ i ≤ ds.length ∧ ∃ us out, H' D = some (.lst us) ∧ out.length = i ∧ RpA (fun x => W x ∨ x = D) H' us out ∧ Keep W H H' ∧ S i out H',
    ⟨_, rfl, Nat.zero_le _, [], [], upd_same, rfl, .nil, Keep.alloc hD, stab D 0 [] H _ hD (Keep.refl.set rfl) (fun o e => by rw [hD] at e; cases e) S0⟩, ?_⟩
  rintro i m H1 ⟨rfl, hi, us, out, eD, lo, ru, k1, s1⟩
  by_cases lt : i < ds.length
  · refine .inr ⟨(Y D hD).go H1 i k1 lt, fun H' => ∃ us out, H' D = some (.lst us) ∧ out.length = i + 1 ∧ RpA (fun x => W x ∨ x = D) H' us out ∧ Keep W H H' ∧ S (i + 1) out H', fun H' h => ⟨ds.length - (i + 1), by omega, rfl, lt, h⟩, fun x H2 hy => ?_⟩
    have hd := List.getElem?_eq_getElem lt
    obtain ⟨k2, rx⟩ := (Y D hD).yld H1 H2 i x _ k1 hd hy
    have k12 := k1.trans k2.weak
    have eD2 := k2.get (fun z => z) eD
    have s2 := stab D i out H1 H2 hD k2.weak (fun o e => by rw [eD] at e; exact ⟨_, (Option.some.inj e).symm⟩) s1
    refine body D i x _ out H2 _ _ hD hd lo k12 ((als _ _ _ s2).one eD2) rx s2 fun y H5 e k5 r5 s5 => ?_
    have eD5 := k5 _ _ nD eD2
    have ru2 := ru.same k2
    have kD : Keep (fun x => x = D) H5 (upd H5 D (.lst (us ++ [y]))) := Keep.refl.set rfl
    have kW : Keep (fun x => W x ∨ x = D) H5 (upd H5 D (.lst (us ++ [y]))) := kD.mono fun _ h => .inr h
    refine ⟨us, eD5, ?_, us ++ [y], out ++ [e], upd_same, by rw [List.length_append, lo]; rfl, ?_, (k12.trans k5).setN hD, stab D _ _ _ _ hD kD (fun o q => by rw [eD5] at q; exact ⟨_, (Option.some.inj q).symm⟩) s5⟩
    · have h1 := ru.len
      omega
    · exact ((ru2.keep (k5.mono fun _ h => .inl h)).keep kW).snoc (r5.keep kW)
  · have e : i = ds.length := by omega
    subst e
    exact .inl ⟨(Y D hD).stop H1 k1, cont D H1 out hD lo k1 s1 (.lst eD nD (ru.sub fun x h => .inl h))⟩
end
end Hm

/-! F6: dicts keyed by pairs of ints: sorted(d). -/
namespace Hm
open PySem PySem.Spec PyProof.Rows L2
abbrev TX := List L2.Key × V
def pk (p : Int × Int) : List L2.Key := [Sum.inl p.1, Sum.inl p.2]
theorem pk_inj {p q : Int × Int} (h : pk p = pk q) : p = q := by
  unfold pk at h
  injection h with h1 h2
  injection h2 with h2 _
  injection h1 with h1
  injection h2 with h2
  exact Prod.ext h1 h2
/-- a list of pairs, sorted as Python sorts tuples -/
def RisP (l : List (Int × Int)) : Prop := l.Pairwise fun p q => SrtO.lexB q p = false
theorem risP_eq {l m : List (Int × Int)} (p : l.Perm m) (h1 : RisP l) (h2 : RisP m) : l = m :=
  List.Perm.eq_of_pairwise (fun a b _ _ h h' => by
    have h := SrtO.lexB_no.mp h
    have h' := SrtO.lexB_no.mp h'
    exact Prod.ext (by omega) (by omega)) h1 h2 p
def kH (H : Hp) (v : Value) : Int × Int := match v with
  | .ref a => match H a with
    | some (.tup [.int i, .int j]) => (i, j)
    | _ => (0, 0)
  | _ => (0, 0)
def adr (v : Value) : Addr := match v with
  | .ref a => a
  | _ => default
def PrT (H : Hp) (t : Addr) (p : Int × Int) : Prop := H t = some (.tup [.int p.1, .int p.2])
def uSortDictP : List V → Hp → VK → Prop := fun xs H Q => ∃ (a : Addr) (kvs : List TX) (ks : List (Int × Int)), xs = [.ref a] ∧ H a = some (.dT kvs) ∧ kvs.map (·.1) = ks.map pk ∧
  ∀ (bs : List Addr) (ys : List (Int × Int)) (p : Addr), ys.Perm ks → RisP ys → Paired (PrT H) bs ys → H p = none → Q (.ref p) (upd H p (.lst (bs.map V.ref)))
section
variable {X : Cx}
theorem cu_sortDictP (hcalm : X.calm = true) : CallR X (.builtin "sorted") uSortDictP := by
  intro pins s σ H xs us Q I r q
  obtain ⟨a, kvs, ks, rfl, hd, hks, q⟩ := q
  rw [Vals.ref1 r]
  obtain ⟨z, hs, kr, pr, o, es, ep, ho, hx, hdt, he, hn⟩ := (show ObjOk X.prog X.w H s.heap a (.dT kvs) from (Rd.of hd).ok I.hok)
  have l1 : es.size = kr.length := size_of_entries he
  have l2 : kvs.length = kr.length := Paired.length pr
  have hkr : kr.map (fun x => kH H (.ref x.2.1)) = ks ∧ ∀ x ∈ kr, H x.2.1 = some (.tup [.int (kH H (.ref x.2.1)).1, .int (kH H (.ref x.2.1)).2]) := by
    clear q hn he l1 l2 hd z
    induction pr generalizing ks with
    | nil =>
      cases ks with
      | nil => exact ⟨rfl, fun _ h => nomatch h⟩
      | cons _ _ => simp at hks
    | @cons p q ps qs h t ih =>
      cases ks with
      | nil => simp at hks
      | cons k ks =>
        rw [List.map_cons, List.map_cons] at hks
        injection hks with e1 e2
        obtain ⟨i1, i2⟩ := ih ks e2
        have hq : H q.2.1 = some (.tup [.int k.1, .int k.2]) := by rw [h.2.1, e1]; rfl
        have ek : kH H (.ref q.2.1) = k := by unfold kH; simp only [hq]
        refine ⟨by rw [List.map_cons, i1, ek], fun x hx => ?_⟩
        rcases List.mem_cons.mp hx with rfl | hx
        · rw [ek]; exact hq
        · exact i2 x hx
  obtain ⟨hk1, hk2⟩ := hkr
  refine Calls.call_function_entry kind_sorted plain_sorted entry_sorted (args_sorted1 _) ?_
  unfold Builtin.«sorted»
  refine wpAny_bind (m := checkCount "sorted" 1 1 _) (wpAny_pure ?_)
  refine wpAny_bind (PySem.W.kdu_collect (A := X.A.in1) (kdl_raw hs hx hdt) (I.ok.hd hcalm) ho (by omega) fun h' tk acc hk hacc => ?_)
  have ea : acc.toList = kr.map fun x => Value.ref x.2.1 := by
    have hl : acc.toList.length = kr.length := by rw [Array.length_toList, hacc.1]; exact l1
    apply List.ext_getElem?
    intro j
    rw [List.getElem?_map]
    cases hj : acc.toList[j]? with
    | none =>
      have h1 := List.getElem?_eq_none_iff.mp hj
      rw [List.getElem?_eq_none (by omega)]
      all_goals rfl
    | some v =>
      obtain ⟨en, hen, hv⟩ := hacc.2 j v (by rw [← Array.getElem?_toList]; exact hj)
      have qe := entry_at he j
      rw [hen] at qe
      cases hb : kr[j]? with
      | none =>
        rw [hb] at qe
        exact nomatch (show some en = none from qe)
      | some b =>
        rw [hb] at qe
        have e2 : en = entryOfKey (tupleKind (mixKind X.prog X.w)) b := Option.some.inj qe
        rw [hv, e2]
        all_goals rfl
  have I1 : Inv X pins σ H { s with heap := h', toks := tk } := I.kept hk
  have hal2 : acc.toList.length ≤ sizeLine := by rw [ea, List.length_map]; omega
  refine wpAny_bind (wpAny_newList ?_ hal2)
  have at1 : (h'.push (seqObj "list" acc.toList.toArray 0)).get? h'.objs.size = some (seqObj "list" acc.toList.toArray 0) := Heap.get?_push_size _ rfl
  show wpAny _ _ _ _ _ { s with heap := h'.push (seqObj "list" acc.toList.toArray 0), toks := tk }
  have isp : ∀ v ∈ acc.toList, Srt.IsPair (h'.push (seqObj "list" acc.toList.toArray 0)) v (kH H v).1 (kH H v).2 := fun v hv => by
    rw [ea] at hv
    obtain ⟨x, hx, rfl⟩ := List.mem_map.mp hv
    obtain ⟨_, its2, r2, o, ho, hc, n, hd⟩ := I1.hok _ _ (hk2 x hx)
    obtain ⟨u1, u2, rfl, ri, rj⟩ := vals2 r2
    obtain ⟨t1, rfl⟩ := ri
    obtain ⟨t2, rfl⟩ := rj
    exact ⟨x.2.1, o, t1, t2, n, rfl, Heap.get?_push_of_some _ ho, hc, hd⟩
  refine wpAny_bind (wpAny_holding (wpAny_call_entry slot_list_sort ⟨_, at1, rfl⟩ entry_list_sort
    (SrtO.list_sort_ord (SrtO.swo_lex (kH H)) (s := { s with heap := h'.push (seqObj "list" acc.toList.toArray 0), toks := tk }) at1 hal2 (fun h2 => SrtO.pairs_sortableO (by omega) isp fun o e => ?_) fun out z1 z2 => ⟨_, rfl, ?_⟩) (args_list_sort _)))
  · have e' : some o = some (seqObj "list" acc.toList.toArray 0) := e.symm.trans at1
    cases e'
    intro c
    exact absurd (Value.type.inj c) (by decide)
  obtain ⟨c, hc⟩ := sortedHeap_at (vs := acc.toList) (out := out.toArray) at1
  have outr : ∀ v ∈ out, ∃ x ∈ kr, v = Value.ref x.2.1 := fun v hv => by
    have := z2.perm.mem_iff.mp hv
    rw [ea] at this
    obtain ⟨x, hx, rfl⟩ := List.mem_map.mp this
    exact ⟨x, hx, rfl⟩
  have eo : out.map (fun v => Value.ref (adr v)) = out := by
    have : out.map (fun v => Value.ref (adr v)) = out.map id := List.map_congr_left fun v hv => by
      obtain ⟨x, _, rfl⟩ := outr v hv
      rfl
    rw [this, List.map_id]
  have hlen : ((out.map adr).map V.ref).length ≤ sizeLine := by
    rw [List.length_map, List.length_map, z2.perm.length_eq]; exact hal2
  have rv : Vals ((out.map adr).map V.ref) out := by
    have := vals_refs (out.map adr)
    rw [List.map_map (f := adr) (g := Value.ref), show (Value.ref ∘ adr) = fun v => Value.ref (adr v) from rfl, eo] at this
    exact this
  have pys : (out.map (kH H)).Perm ks := by
    have := z2.perm.map (kH H)
    rw [ea, List.map_map] at this
    rw [← hk1]; exact this
  have pp : Paired (PrT H) (out.map adr) (out.map (kH H)) := by
    clear pys rv hlen eo hc z1 z2 q
    induction out with
    | nil => exact .nil
    | cons v l ih =>
      refine .cons ?_ (ih fun v hv => outr v (List.mem_cons_of_mem _ hv))
      obtain ⟨x, hx, rfl⟩ := outr v List.mem_cons_self
      exact hk2 x hx
  refine wpAny_pure ⟨_, rfl, .ref h'.objs.size, upd H h'.objs.size (.lst ((out.map adr).map V.ref)), I1.laid (t' := tk) (fun b u e => ?_) (Nat.le_refl _)
    (show ObjOk X.prog X.w _ _ _ (.lst ((out.map adr).map V.ref)) from ⟨hlen, out, c, rv, hc⟩), rfl, q _ _ _ pys (List.pairwise_map.mpr z1) pp (I1.hok.fresh (Nat.le_refl _))⟩
  have hb : b < h'.objs.size := Heap.lt_size e
  rw [sortedHeap_old (Nat.ne_of_lt hb) (by rw [size_push']; exact Nat.lt_succ_of_lt hb)]
  exact Heap.get?_push_of_some _ e
end
theorem v_sortedP {a : Addr} {kvs : List TX} {ks : List (Int × Int)} {H : Hp} {Q : VK} (h : H a = some (.dT kvs)) (e : kvs.map (·.1) = ks.map pk) (k : ∀ (bs : List Addr) (ys : List (Int × Int)) (p : Addr), ys.Perm ks → RisP ys → Paired (PrT H) bs ys → H p = none → Q (.ref p) (upd H p (.lst (bs.map V.ref)))) : uSortDictP [.ref a] H Q :=
  ⟨a, kvs, ks, rfl, h, e, k⟩
/-- {k: v} with one flat tuple for a key -/
def uDispT (tk tv : TE) : TE := fun σ H Q => ∀ p, H p = none → tk σ (upd H p (.dT [])) fun x H1 => tv σ H1 fun y H2 =>
  ∃ (k : List L2.Key) (b : Addr), x = .ref b ∧ H2 p = some (.dT []) ∧ H2 b = some (.tup (k.map kV)) ∧ Q (.ref p) (upd H2 p (.dT [(k, y)]))
theorem pe_dispT {X : Cx} {ke ve : Expr} {tk tv : TE} {pos : Pos} (hu : X.A.units + 64 < cLine) (hk : PE X ke tk) (hv : PE X ve tv)
    (shape : (evalEachOpt [some ke] X.env).zip ((evalEach [ve] X.env).map fun v => do let x ← v; standAt pos; pure x) = [(eval ke X.env, (do let x ← eval ve X.env; standAt pos; pure x))].map fun p => (some p.1, p.2) := by rfl) :
    PE X (.Dict [some ke] [ve] pos) (uDispT tk tv) := by
  refine ⟨fun pins s σ H Q I h => ?_⟩
  have hn := I.hok.fresh (Nat.le_refl s.heap.objs.size)
  have I1 := I.laid (a := s.heap.objs.size) (o := .dT []) (h' := s.heap.push { cls := .type "dict", data := .dict #[] }) (t' := s.toks) (fun _ _ q => Heap.get?_push_of_some _ q) (Nat.le_refl _) (dt_empty s.heap I.big)
  have h1 : PPs X pos [some ke] [ve] [(tk, tv)] := pps_cons hk hv pps_nil
  have trees : pairTrees [some ke] [ve] X.env pos = [(eval ke X.env, (do let x ← eval ve X.env; standAt pos; pure x))] := by rfl
  have run := h1.run pins _ σ _ (fun ps H2 => match ps with
    | [(x, y)] => ∃ (k : List L2.Key) (b : Addr), x = .ref b ∧ H2 s.heap.objs.size = some (.dT []) ∧ H2 b = some (.tup (k.map kV)) ∧ Q (.ref s.heap.objs.size) (upd H2 s.heap.objs.size (.dT [(k, y)]))
    | _ => False) I1 (h _ hn)
  rw [trees] at run
  rw [arm_eval_Dict, shape, dictDisplay_pairs _ (by simp) (by simp)]
  refine wpAny_bind (wpAny_standAt (wpAny_bind (wpAny_subDictH (knd := tupleKind (mixKind X.prog X.w)) (show X.A.units < cLine by omega) (by simp) (thn run fun vs s2 hh => ?_))))
  obtain ⟨ps, H2, I2, rel, q⟩ := hh
  split at q
  · rename_i x y
    obtain ⟨k, b, rfl, e, eb, q⟩ := q
    cases rel with
    | @cons p1 q1 ps qs rr t =>
    cases t
    obtain ⟨u1, u2⟩ := q1
    obtain ⟨r1, r2⟩ := rr
    cases (show u1 = Value.ref b from r1)
    obtain ⟨z, hd, xs, rr, D⟩ := dt_of I2.hok e
    cases rr
    refine ⟨[(k, b, u2)], ⟨rfl, rfl, key_of I2.hok eb, True.intro⟩, D, fun h' tk' D' hs => wpAny_pure ⟨.ref s.heap.objs.size, _, ?_, rfl, q⟩⟩
    obtain ⟨q', es, ep, hq, h2, h3, h4, _, h5⟩ := id D'
    refine d_write I2 (by rw [e]; exact True.intro) hs ⟨q', hq⟩ ⟨by rw [sizeLine_eq]; exact (by decide : (1 : Nat) ≤ 16777216), hd, [(k, b, u2)], .cons ⟨rfl, ?_, r2⟩ .nil, q', es, ep, hq, h2, h3, h4, h5⟩
    show upd H2 _ _ b = _
    rw [upd_ne (ne_of eb e (fun z => nomatch z))]
    exact eb
  · exact q.elim
/-! ### loops that change one slot -/
section
variable {K : PySem.W.Frag} {a : Addr} {tb : TS} {D : Ends} {σ : L2.St} {H : Hp} {i : Nat}
theorem forI {l : List Int} (Pv : Nat → Hp → Prop) (hl : ∀ j H', Pv j H' → H' a = some (.lst (l.map V.int))) (o0 : Option V) (e0 : σ.set i o0 = σ) (h0 : Pv 0 H)
    (hs : ∀ j z H', l[j]? = some z → Pv j H' → tb { D with nx := fun s h => ∃ o, s = σ.set i o ∧ Pv (j + 1) h, ct := fun s h => ∃ o, s = σ.set i o ∧ Pv (j + 1) h, bk := D.nx } (σ.set i (some (.int z))) H')
    (hd : ∀ o H', Pv l.length H' → D.nx (σ.set i o) H') : kFor (Itl K a) (gName i) tb D σ H := by
  refine for_list (xs := l.map V.int) (fun j s H' => ∃ o, s = σ.set i o ∧ Pv j H') ⟨o0, e0.symm, h0⟩ (fun j s H' _ ⟨_, _, h⟩ => SqL.of (hl j H' h)) ?_ ?_
  · rintro j x s H' hj ⟨o, rfl, h⟩
    rw [List.getElem?_map] at hj
    obtain ⟨z, hz, rfl⟩ := Option.map_eq_some_iff.mp hj
    refine r_gname ?_
    rw [List.set_set]
    exact hs j z H' hz h
  · rintro s H' ⟨o, rfl, h⟩
    rw [List.length_map] at h
    exact hd o H' h
end
theorem forI2 {K : PySem.W.Frag} {a : Addr} {tb : TS} {D : Ends} {σ : L2.St} {H : Hp} {i k : Nat} {l : List Int} (Pv : Nat → Hp → Prop) (hl : ∀ j H', Pv j H' → H' a = some (.lst (l.map V.int))) (o0 p0 : Option V) (e0 : (σ.set i o0).set k p0 = σ) (hik : i ≠ k) (h0 : Pv 0 H)
    (hs : ∀ j z H' (p : Option V), l[j]? = some z → Pv j H' → tb { D with nx := fun s h => ∃ o p, s = (σ.set i o).set k p ∧ Pv (j + 1) h, ct := fun s h => ∃ o p, s = (σ.set i o).set k p ∧ Pv (j + 1) h, bk := D.nx } ((σ.set i (some (.int z))).set k p) H')
    (hd : ∀ o p H', Pv l.length H' → D.nx ((σ.set i o).set k p) H') : kFor (Itl K a) (gName i) tb D σ H := by
  refine for_list (xs := l.map V.int) (fun j s H' => ∃ o p, s = (σ.set i o).set k p ∧ Pv j H') ⟨o0, p0, e0.symm, h0⟩ (fun j s H' _ ⟨_, _, _, h⟩ => SqL.of (hl j H' h)) ?_ ?_
  · rintro j x s H' hj ⟨o, p, rfl, h⟩
    rw [List.getElem?_map] at hj
    obtain ⟨z, hz, rfl⟩ := Option.map_eq_some_iff.mp hj
    refine r_gname ?_
    rw [List.set_comm _ _ (Ne.symm hik), List.set_set]
    exact hs j z H' p hz h
  · rintro s H' ⟨o, p, rfl, h⟩
    rw [List.length_map] at h
    exact hd o p H' h
theorem r_ikeysT {td : TE} {σ : L2.St} {H : Hp} {R : It → Hp → Prop} (k : td σ H fun x H1 => ∃ d o, x = .ref d ∧ ((∃ kvs, H1 d = some (.frz o (.dK kvs)) ∧ R (Itk d o kvs) H1) ∨ ∃ kvs, H1 d = some (.frz o (.dT kvs)) ∧ R (Itkt d o kvs) H1)) : iKeys td σ H R := k
/-- a walk over the keys of a dict that is locked for it -/
theorem forT {d : Addr} {o : Obj} {kvs : List TX} {ks : List (Int × Int)} {g : TG} {tb : TS} {D : Ends} {σ : L2.St} {H : Hp} (ke : kvs.map (·.1) = ks.map pk) (Pv : Nat → L2.St → Hp → Prop) (h0 : Pv 0 σ H) (hl : ∀ j σ H, Pv j σ H → H d = some (.frz o (.dT kvs)))
    (hs : ∀ j z q σ H, ks[j]? = some z → Pv j σ H → PrT H q z → g (.ref q) σ H fun σ2 H2 => tb { D with nx := Pv (j + 1), ct := Pv (j + 1), bk := D.nx } σ2 H2)
    (hd : ∀ σ H, Pv ks.length σ H → D.nx σ H) : kFor (Itkt d o kvs) g tb D σ H := by
  have len : kvs.length = ks.length := by have := congrArg List.length ke; rw [List.length_map, List.length_map] at this; exact this
  refine ⟨fun i m σ H => m = ks.length - i ∧ i ≤ ks.length ∧ Pv i σ H, ⟨_, rfl, Nat.zero_le _, h0⟩, ?_⟩
  rintro i m σ H ⟨rfl, hi, p⟩
  by_cases lt : i < ks.length
  · refine .inr ⟨⟨hl _ _ _ p, by omega⟩, Pv (i + 1), fun σ' H' p' => ⟨ks.length - (i + 1), by omega, rfl, lt, p'⟩, fun x H' y => ?_⟩
    obtain ⟨rfl, k, v, q, e1, rfl, e2⟩ := y
    have hz := List.getElem?_eq_getElem lt
    have e3 : (kvs.map (·.1))[i]? = some k := by rw [List.getElem?_map, e1]; rfl
    rw [ke, List.getElem?_map, hz] at e3
    cases e3
    exact hs i _ q σ _ hz p e2
  · have e : i = ks.length := by omega
    subst e
    exact .inl ⟨⟨hl _ _ _ p, by omega⟩, hd σ H p⟩
theorem lock_keep {M : Addr → Prop} {H H' : Hp} {d : Addr} {u f : HO} (h : H d = some u) (k : Keep M (upd H d f) H') : Keep M H (upd H' d u) := fun a o n e => by
  by_cases z : a = d
  · subst z
    rw [h] at e; rw [upd_same]; exact e
  · rw [upd_ne z]
    exact k a o n (by rw [upd_ne z]; exact e)
theorem find_at {α : Type} {p : α → Bool} {l : List α} {j : Nat} {x : α} (h : l[j]? = some x) (n : ∀ y ∈ l.take j, p y = false) (hx : p x = true) : l.find? p = some x := by
  have e : l = l.take j ++ x :: l.drop (j + 1) := by
    obtain ⟨hl, rfl⟩ := List.getElem?_eq_some_iff.mp h
    rw [List.getElem_cons_drop, List.take_append_drop]
  rw [e, List.find?_append, List.find?_eq_none.mpr (fun y hy => by simp [n y hy]), Option.none_or, List.find?_cons_of_pos hx]
theorem find_no {α : Type} {p : α → Bool} {l : List α} (n : ∀ y ∈ l, p y = false) : l.find? p = none := List.find?_eq_none.mpr fun y hy => by simp [n y hy]
theorem take_snoc {α : Type} {l : List α} {j : Nat} {x : α} (h : l[j]? = some x) {P : α → Prop} (a : ∀ y ∈ l.take j, P y) (b : P x) : ∀ y ∈ l.take (j + 1), P y := fun y hy => by
  rw [List.take_succ, h] at hy
  rcases List.mem_append.mp hy with q | q
  · exact a y q
  · cases List.mem_singleton.mp q; exact b
/-! ### a text among texts -/
theorem inV_str {z : Str} (os : List Str) : inV (.str z) (os.map V.str) = decide (z ∈ os) := by
  unfold inV
  rw [List.any_map]
  by_cases h : z ∈ os
  · rw [decide_eq_true h]
    exact List.any_eq_true.mpr ⟨z, h, by simp [Function.comp, eqV]⟩
  · rw [decide_eq_false h]
    exact List.any_eq_false.mpr fun y hy => by
      simp only [Function.comp, eqV, beq_iff_eq]
      exact fun e => h (e ▸ hy)
theorem flat_strs : ∀ os : List Str, (os.map V.str).all flatV = true
  | [] => rfl
  | x :: r => by rw [List.map_cons, List.all_cons, flat_strs r]; rfl
theorem v_ninSt {P : Program} {w : World} {K : PySem.W.Frag} {H : Hp} {Q : VK} {l : Addr} {os : List Str} {z : Str} (h : H l = some (.tup (os.map V.str))) (q : Q (.bl (!decide (z ∈ os))) H) : cNotIn P w K (.str z) (.ref l) H Q :=
  .inl ⟨l, os.map V.str, rfl, .inr (SqT.of h), rfl, flat_strs os, by rw [if_pos rfl, inV_str]; exact q⟩
theorem v_inSt {P : Program} {w : World} {K : PySem.W.Frag} {H : Hp} {Q : VK} {l : Addr} {os : List Str} {z : Str} (h : H l = some (.tup (os.map V.str))) (q : Q (.bl (decide (z ∈ os))) H) : cIn P w K (.str z) (.ref l) H Q :=
  .inl ⟨l, os.map V.str, rfl, .inr (SqT.of h), rfl, flat_strs os, by rw [if_neg (by decide), inV_str]; exact q⟩
theorem v_ninSl {P : Program} {w : World} {K : PySem.W.Frag} {H : Hp} {Q : VK} {l : Addr} {os : List Str} {z : Str} (h : H l = some (.lst (os.map V.str))) (q : Q (.bl (!decide (z ∈ os))) H) : cNotIn P w K (.str z) (.ref l) H Q :=
  .inl ⟨l, os.map V.str, rfl, .inl (SqL.of h), rfl, flat_strs os, by rw [if_pos rfl, inV_str]; exact q⟩
theorem v_inSl {P : Program} {w : World} {K : PySem.W.Frag} {H : Hp} {Q : VK} {l : Addr} {os : List Str} {z : Str} (h : H l = some (.lst (os.map V.str))) (q : Q (.bl (decide (z ∈ os))) H) : cIn P w K (.str z) (.ref l) H Q :=
  .inl ⟨l, os.map V.str, rfl, .inl (SqL.of h), rfl, flat_strs os, by rw [if_neg (by decide), inV_str]; exact q⟩
theorem RpA.bools_ {W : Addr → Prop} {H : Hp} : ∀ {l : List Bool} {vs : List V}, RpA W H vs (l.map .bool) → vs = l.map V.bl
  | [], _, h => h.nil_
  | x :: l, _, h => by
    obtain ⟨v, r, rfl, h1, h⟩ := h.cons_
    rw [h1.bool_, RpA.bools_ h]; rfl
theorem inV_bl {z : Bool} (os : List Bool) : inV (.bl z) (os.map V.bl) = decide (z ∈ os) := by
  unfold inV
  rw [List.any_map]
  by_cases h : z ∈ os
  · rw [decide_eq_true h]
    exact List.any_eq_true.mpr ⟨z, h, by simp [Function.comp, eqV]⟩
  · rw [decide_eq_false h]
    exact List.any_eq_false.mpr fun y hy => by
      simp only [Function.comp, eqV, beq_iff_eq]
      exact fun e => h (e ▸ hy)
theorem flat_bls : ∀ os : List Bool, (os.map V.bl).all flatV = true
  | [] => rfl
  | x :: r => by rw [List.map_cons, List.all_cons, flat_bls r]; rfl
theorem v_inBl {P : Program} {w : World} {K : PySem.W.Frag} {H : Hp} {Q : VK} {W : Addr → Prop} {x : V} {os : List Bool} {z : Bool} (h : Rp W H x (.list (os.map .bool))) (q : Q (.bl (decide (z ∈ os))) H) : cIn P w K (.bl z) x H Q := by
  obtain ⟨l, xs, rfl, e, _, r⟩ := h.list_
  rw [r.bools_] at e
  exact .inl ⟨l, os.map V.bl, rfl, .inl (SqL.of e), rfl, flat_bls os, by rw [if_neg (by decide), inV_bl]; exact q⟩
theorem v_ninBl {P : Program} {w : World} {K : PySem.W.Frag} {H : Hp} {Q : VK} {W : Addr → Prop} {x : V} {os : List Bool} {z : Bool} (h : Rp W H x (.list (os.map .bool))) (q : Q (.bl (!decide (z ∈ os))) H) : cNotIn P w K (.bl z) x H Q := by
  obtain ⟨l, xs, rfl, e, _, r⟩ := h.list_
  rw [r.bools_] at e
  exact .inl ⟨l, os.map V.bl, rfl, .inl (SqL.of e), rfl, flat_bls os, by rw [if_pos rfl, inV_bl]; exact q⟩
/-! ### dicts keyed by pairs, truths in them -/
def BlV (kvs : List TX) : Prop := ∀ k v, valV kvs k = some v → ∃ b, v = .bl b
def gK (kvs : List TX) (x y : Int) : Bool := match valV kvs (pk (x, y)) with
  | some (.bl b) => b
  | _ => false
theorem gK_get {kvs : List TX} (h : BlV kvs) (x y : Int) : (valV kvs (pk (x, y))).getD (.bl false) = .bl (gK kvs x y) := by
  unfold gK
  cases e : valV kvs (pk (x, y)) with
  | none => rfl
  | some v =>
    obtain ⟨b, rfl⟩ := h _ v e
    rfl
theorem r_dg2 {td ty tx : TE} {σ : L2.St} {H : Hp} {Q : VK} (k : td σ H fun x H1 => ∃ a, x = .ref a ∧ IsD H1 a ∧ ty σ H1 fun y H2 => tx σ H2 fun z H3 => ∃ o, DGet H3 a y o ∧ Q (o.getD z) H3) : tDGet2 td ty tx σ H Q := k
/-- d.get((x, y), False), x and y in slots -/
theorem r_getP {ik ia ib : Nat} {kn : Addr} {kvs : List TX} {x y : Int} {σ : L2.St} {H : Hp} {Q : VK} (hk : σ[ik]? = some (some (.ref kn))) (ha : σ[ia]? = some (some (.int x))) (hb : σ[ib]? = some (some (.int y))) (e : Rd H kn (.dT kvs)) (bl : BlV kvs)
    (q : ∀ H', Keep Nil H H' → Q (.bl (gK kvs x y)) H') : tDGet2 (tVar ik) (tTup (tCons (tVar ia) (tCons (tVar ib) tNil))) (tC (.bl false)) σ H Q := by
  refine r_dg2 (r_var hk ⟨kn, rfl, .inr ⟨kvs, e⟩, r_tup (r_cons (r_var ha (r_cons (r_var hb (r_nil (r_ktup (by simp) fun p hp => r_c ?_))))))⟩)
  have kp : Keep Nil H (upd H p (.tup [.int x, .int y])) := Keep.alloc hp
  have e' : Rd (upd H p (.tup [.int x, .int y])) kn (.dT kvs) := e.imp (fun z => kp.get (fun z => z) z) fun ⟨o, z⟩ => ⟨o, kp.get (fun z => z) z⟩
  have g : DGet (upd H p (.tup [.int x, .int y])) kn (.ref p) (valV kvs (pk (x, y))) := .inr ⟨kvs, pk (x, y), p, e', rfl, upd_same, rfl⟩
  exact ⟨_, g, by rw [gK_get bl]; exact q _ kp⟩
end Hm

/-! F7: an except suite in which the error is known: isinstance of it there, calls of defs there. -/
namespace Hm
open PySem PySem.Spec PyProof.Rows L2
section
variable {X : Cx} {pins : List (Addr × Obj)} {σ : L2.St} {H : Hp} {s : Shared}
theorem suiteM (I : Inv X pins σ H s) (a : Addr) : Inv (X.suite a (X.pn ++ pins)) [] σ H s :=
  ⟨I.ok.suite _ _, I.os, I.bare, I.base, I.loc, I.cell, I.free, I.freeC, fun p hp => I.pin p (by rw [List.append_nil] at hp; exact hp), I.hok, I.len⟩
theorem unsuiteM {a : Addr} {pn' : List (Addr × Obj)} (I : Inv (X.suite a (X.pn ++ pins)) pn' σ H s) (ok : X.Ok) : Inv X pins σ H s :=
  ⟨ok, I.os, I.bare, I.base, I.loc, I.cell, I.free, I.freeC, fun p hp => I.pin p (List.mem_append_left _ hp), I.hok, I.len⟩
end
/-- what a clause «except c as n» wishes, the error known in its suite -/
def wValW (K : PySem.W.Frag) (c : Value) (i : Nat) (ts : Addr → Value → TS) (Wout : WX) (D : Ends) : WX := fun cls d σ H =>
  d = none ∧ ∃ b, PySem.W.exmOne K cls c = some b ∧
    (b = true → ∀ a, H a = none → ts a cls { nx := fun σ' H' => D.nx (σ'.set i none) H', rt := D.rt, bk := fun _ _ => False, ct := fun _ _ => False } (σ.set i (some (.ref a))) (upd H a (ExV cls a))) ∧ (b = false → Wout cls d σ H)
section
variable {X : Cx} {x n : Str} {c : Value} {i : Nat} {body suite : List Stmt} {b₀ : Stmt} {np pos pos' : Pos} {tb : WX → TS} {ts : Addr → Value → TS} {Wout : WX}
/-- try: body, except x as n: suite; what is caught stays an object that is known -/
theorem ps_try_valW (hs : X.stack = X.env :: X.outer) (hf : X.env.frame = some X.env.locals) (hN : X.N.Nodup) (hi : X.N[i]? = some n) (hln : X.env.kindOf n = some .local) (hc : Names X x c) (tk : Takes X Wout) (hex : X.ex = [])
    (hb : ∀ (W : WX) (pn : List (Addr × Obj)) (xe : Value → Shared → Prop), Takes (X.tr pn xe) W → PassesOwn (model X.prog X.w) X.A X.env xe → PSs (X.tr pn xe) body (tb W))
    (hsu : ∀ (a : Addr) (cls : Value) (pn : List (Addr × Obj)), PSs (X.suite a pn) (b₀ :: suite) (ts a cls)) :
    PS X (.Try body [.ExceptHandler (some (.Name x np)) (some n) (b₀ :: suite) pos'] [] [] pos) (fun D σ H => tb (wValW X.K c i ts Wout D) D σ H) := by
  refine ⟨fun pins s σ H D I h => wpAny_Try_except ?_⟩
  have ok := I.ok
  have hfr : X.A.frames = some (X.env :: X.outer) := by rw [ok.frames, hs]
  have run := (hb (wValW X.K c i ts Wout D) (X.pn ++ pins) (fun e s₁ => wpAny (model X.prog X.w) X.A (noteFrame e X.env) (fun _ s₂ => wpAny (model X.prog X.w) X.A (setFlight e none)
    (fun _ s₃ => wpAny (model X.prog X.w) X.A (handleBy e X.env [.ExceptHandler (some (.Name x np)) (some n) (b₀ :: suite) pos']) (SP X pins D) X.xe s₃) X.xe s₂) X.xe s₁) ?_ PassesOwn.looking).run [] s σ H D (I.toTry _) h
  · refine wpAny_mono run (fun f s1 hsp => ?_) fun _ _ z => z
    cases f with
    | next => obtain ⟨σ', H', J', q⟩ := hsp; exact wpAny_execs_nil ⟨σ', H', J'.ofTry ok, q⟩
    | brk => obtain ⟨σ', H', J', q⟩ := hsp; exact ⟨σ', H', J'.ofTry ok, q⟩
    | cont => obtain ⟨σ', H', J', q⟩ := hsp; exact ⟨σ', H', J'.ofTry ok, q⟩
    | ret u => obtain ⟨v, σ', H', J', r, q⟩ := hsp; exact ⟨v, σ', H', J'.ofTry ok, r, q⟩
  rintro u s' ⟨a, B, sI, pins', σ', H', cls, d, rfl, J', nb, up, sky, na, os, ag, rfl, b, hb1, hyes, hno⟩
  have J : Inv X pins σ' H' sI := J'.ofTry ok
  have air : Sky B (X.env :: X.outer) a (Zc cls none) X.env.locals s'.heap := by rw [← hs]; exact sky
  show wpAny (model X.prog X.w) X.A (noteFrame (.ref a) X.env) _ _ _
  refine Sky.land Zc.steady hfr hf air fun h3 fl3 up3 => ?_
  have J3 : Inv X pins σ' H' { s' with heap := h3 } := J.landed nb fl3.1 (up.trans up3) os ag
  obtain ⟨oe3, vs3, he3, hz3, hd3⟩ := fl3.there
  have aside : a ∉ frs (X.env :: X.outer) := fun hm => by
    obtain ⟨_, o', e', hnf⟩ := fl3.2.2.1.mem hm
    rw [he3] at e'; cases e'
    exact hnf _ hd3
  have gI : sI.heap.get? a = none := by
    cases e : sI.heap.get? a with
    | none => rfl
    | some o =>
      have q := nb a o e (by show a ∉ frs X.stack; rw [hs]; exact aside)
      rw [fl3.2.1] at q; cases q
  have nL : a ≠ X.env.locals := fun z => aside (List.mem_filterMap.mpr ⟨X.env, List.mem_cons_self, by rw [hf, z]⟩)
  have nF : a ∉ X.fs := fun hm => by
    obtain ⟨e, he, q⟩ := List.mem_filterMap.mp hm
    exact aside (List.mem_filterMap.mpr ⟨e, List.mem_cons_of_mem _ he, q⟩)
  have h00 : X.s_0.heap.get? a = none := by
    cases e : X.s_0.heap.get? a with
    | none => rfl
    | some o =>
      obtain ⟨o', q⟩ := J.base.there a o e (by rw [hex]; exact List.not_mem_nil)
      rw [gI] at q; cases q
  have noCell : ∀ y k, X.env.cells.lookup y = some k → k ≠ a := fun y k e z => by
    obtain ⟨v, o, q, _⟩ := J.cell y k e
    rw [z, gI] at q; cases q
  have noPin : ∀ p ∈ X.pn ++ pins, p.1 ≠ a := fun p hp z => by
    have q := (J.pin p hp).1
    rw [z, gI] at q; cases q
  have S3 := J3.suite he3 hd3 na nL nF
  refine wpAny_handleBy_cons (codeAny_handlers_test ?_) (by intro q; cases q)
  have LT : PySem.W.Looks (model X.prog X.w) h3 (typeOf (.ref a)) cls := fun A Q E s k q => wpAny_typeOf_ref (k _ _ he3) (by rw [hz3.1]; exact q)
  have LM := PySem.W.exm_one (M := model X.prog X.w) (J3.kIn) LT hb1
  have test : ∀ {Q : Value → Shared → Prop} {E : Value → Shared → Prop}, Q c { s' with heap := h3 } → wpAny (model X.prog X.w) (X.A.mark (some (.ref a))) (eval (.Name x np) X.env) Q E { s' with heap := h3 } := fun {Q E} q => by
    obtain ⟨hg, hdbg, hm | ⟨hm, hv, hnn⟩⟩ := hc
    · exact ld_glob (X := X.suite a ((a, oe3) :: (X.pn ++ pins))) S3 hg hm q hdbg
    · exact ld_blt (X := X.suite a ((a, oe3) :: (X.pn ++ pins))) S3 hg hm hv q hnn hdbg
  refine test (LM.here ?_)
  cases b with
  | false =>
    show wpAny _ X.A (handleBy (.ref a) X.env []) _ _ _
    refine wpAny_handleBy_nil ?_
    obtain ⟨k1, k2, k3, oe, vs, T, oT, ts', he, hz, hd, h1, hr⟩ := id fl3
    unfold PySem.passOn
    refine wpAny_bind (wpAny_field he hd h1 ?_)
    rw [if_neg (show ¬ ((Value.ref T == Value.none) = true) from by simp)]
    have fin : wpAny (model X.prog X.w) X.A (setFlight (.ref a) X.env.frame) (fun _ s4 => wpAny (model X.prog X.w) X.A (throw (.ref a) : Sem Flow) (SP X pins D) X.xe s4) X.xe { s' with heap := h3 } := by
      rw [hf]
      refine HandSPX.setFlight_upZ fl3 fun h4 hh4 up4 => wpAny_throw (tk _ _ ?_)
      exact ⟨a, B, sI, pins, σ', H', cls, none, rfl, J, nb, (up.trans up3).trans up4, .inr (.inr (by rw [hs]; exact hh4)), na, os, ag, hno rfl⟩
    first
      | exact wpAny_bind (wpAny_pure (wpAny_bind fin))
      | exact wpAny_bind fin
  | true =>
    refine codeAny_handlers_suite_as (HandSPX.lands_againZ fl3 fun h4 fl4 up4 => ?_)
    have J4 : Inv X pins σ' H' { s' with heap := h4 } := J.landed nb fl4.1 ((up.trans up3).trans up4) os ag
    obtain ⟨oe4, vs4, he4, hz4, hd4⟩ := fl4.there
    have S3' : Inv (X.suite a (X.pn ++ pins)) [] σ' H' { s' with heap := h4 } := suiteM J4 a
    have S4 := show_ (φ := fun h => ∃ (oe : Obj) (vs : Array Value), h.get? a = some oe ∧ Zc cls none oe ∧ oe.data = .fields vs) S3' na h00 nL.symm noCell (fun p hp => noPin p (by rw [List.append_nil] at hp; exact hp)) (exV_ok he4 hz4 hd4)
    refine store_ok (X := X.suite a (X.pn ++ pins)) (v := .ref a) S4 hN hi (.inl hln) rfl (fun s5 S5 => ?_) (.inr hln)
    refine wpAny_mono ((hsu a cls (X.pn ++ pins)).run [] s5 _ _ _ S5 (hyes rfl a na)) (fun f s6 hsp => ?_) (fun _ _ z => False.elim z)
    cases f with
    | next =>
      obtain ⟨σ6, H6, S6, q6⟩ := hsp
      exact gone_ok (unsuiteM S6 ok) hN hi hln fun s7 J8 => ⟨_, _, J8, q6⟩
    | brk => obtain ⟨σ6, H6, S6, q6⟩ := hsp; exact q6.elim
    | cont => obtain ⟨σ6, H6, S6, q6⟩ := hsp; exact q6.elim
    | ret u =>
      obtain ⟨v6, σ6, H6, S6, r6, q6⟩ := hsp
      exact gone_ok (unsuiteM S6 ok) hN hi hln fun s7 J7 => ⟨_, _, _, J7, r6, q6⟩
end
/-! ### defs that are called in an except suite -/
structure FnM (P : Program) (w : World) (K : PySem.W.Frag) (mg : Str → Option Value) (base : Heap) (CX : CXT) (k : Nat) (f : Addr) (fd : FuncData) (ps : List Str) (sp : Sp) : Prop where
  len : ∀ vs H Q E, sp vs H Q E → vs.length = ps.length
  run : ∀ (A : Around) (outer : List Env) (s : Shared) (H : Hp) (args : Args) (us : List Value) (vs : List V) (Q : VK) (E : XK), L2H.RoomH k A → Env0 P w K mg base A outer s H → BindsTo s fd args (ps.zip us) → Vals vs us → sp vs H Q E →
    codeAny (model P w) A (.call (.ref f) args) (CR CX outer P w H s Q E) s
def cxM (CX : CXT) (P : Program) (w : World) (K : PySem.W.Frag) (mg : Str → Option Value) (base : Heap) (N : List Str) (qual : Str) (scope : Scope) (f : Addr) (cd : Value) (A : Around) (outer : List Env) (s : Shared) (H : Hp) (E : XK) : Cx :=
  { cxOf CX P w K mg base N qual scope f cd A outer s H E with calm := false }
theorem inv_startM {CX : CXT} {P : Program} {w : World} {K : PySem.W.Frag} {mg : Str → Option Value} {base : Heap} {N ps : List Str} {qual : Str} {scope : Scope} {f : Addr} {cd : Value} {A : Around} {outer : List Env} {s s1 : Shared} {H : Hp} {E : XK} {us : List Value} {vs : List V}
    (S : FnScope N ps scope) (e0 : Env0 P w K mg base A outer s H) (hl : vs.length = ps.length) (r : Vals vs us)
    (x : InCallC s s.heap.objs.size (bindL (envOfC qual scope s.heap.objs.size f cd).kindOf (ps.zip us) fun _ => none) (cellsFrom (s.heap.objs.size + 1) scope.names []) (bindC (envOfC qual scope s.heap.objs.size f cd).kindOf (ps.zip us) fun _ => none) s1) :
    Inv (cxM CX P w K mg base N qual scope f cd A outer s H E) [] (L2.start N vs) H s1 := by
  have I := inv_start (CX := CX) (E := E) (A := { A with handled := none }) S rfl ⟨e0.frames, e0.mod, e0.bs, e0.bsz, e0.funs, e0.frf, e0.hok, e0.bare⟩ hl r x
  have o := I.ok
  exact ⟨⟨o.mod, o.kind, o.glob, o.blt, o.above, o.inj, o.has, o.cab, fun z => Bool.noConfusion (show false = true from z), Around.frames_deeper e0.frames, o.stk, o.exf, o.bs, o.bsz, o.noex, o.exfs, o.funs, o.frf⟩, I.os, I.bare, I.base, I.loc, I.cell, I.free, I.freeC, I.pin, I.hok, I.len⟩
theorem fn_ofM {P : Program} {w : World} {K : PySem.W.Frag} {mg : Str → Option Value} {base : Heap} {k : Nat} {x qual : Str} {st : Stmt} {f : Addr} {fd : FuncData} {N ps : List Str} {sp : Sp} (F : Fun K x qual st f fd) (S : FnScope N ps (defScope st))
    (len : ∀ vs H Q E, sp vs H Q E → vs.length = ps.length)
    (hbody : ∀ (cdv : Value) (A : Around) (outer : List Env) (s : Shared) (H : Hp) (vs : List V) (Q : VK) (E : XK), L2H.RoomH k (A.deeper (envOfC qual (defScope st) s.heap.objs.size f cdv)) → sp vs H Q E →
      ∃ t, PSs (cxM CX0 P w K mg base N qual (defScope st) f cdv A outer s H E).nox (defBody st) t ∧ t { nx := fun _ H' => Q .non H', rt := Q } (L2.start N vs) H) :
    FnM P w K mg base CX0 (k + 1) f fd ps sp := by
  obtain ⟨oc, od, kV, doc, pm, an, cdv, ct, osl, rfl, lk, hcd⟩ := F.ex
  refine ⟨len, fun A outer s H args us vs Q E hr e0 hb r hsp => ?_⟩
  have KX : K.In s.heap := e0.mod.kin.keeps fun b o e => (e0.bs b o e).1
  refine codeAny_call_function hr.depth (KX _ _ lk) rfl S.co S.gen rfl (PySem.W.codeRec_of KX hcd) (hb _ _ _ _ ?_)
  refine wpAny_newFunctionEnv_cells S.kind (fun ⟨n, v⟩ hy => (S.par n (List.of_mem_zip hy).1).imp id fun q => ⟨q, PySem.W.cellsFrom_some _ _ _ (.inl q)⟩) fun env he s1 x => ?_
  subst he
  refine ⟨(e0.mod.nolimit.keeps fun b o e => (e0.bs b o e).1).keeps x.toInCall.keep, codeAny_func ?_⟩
  obtain ⟨t, ht, hq⟩ := hbody cdv A outer s H vs Q E (hr.deeper _) hsp
  refine wpAny_mono (ht.nox.run [] s1 (L2.start N vs) H _ (inv_startM S e0 (len _ _ _ _ hsp) r x) hq) (fun fl s' hs => ?_) fun e s' hs => hs
  cases fl with
  | ret u =>
    obtain ⟨v, σ', H', J, rv, q⟩ := hs
    exact ⟨v, H', J.os, J.bare, J.base, J.hok, rv, q⟩
  | next =>
    obtain ⟨σ', H', J, q⟩ := hs
    exact ⟨V.non, H', J.os, J.bare, J.base, J.hok, rfl, q⟩
  | brk =>
    obtain ⟨_, _, _, q⟩ := hs
    exact q.elim
  | cont =>
    obtain ⟨_, _, _, q⟩ := hs
    exact q.elim
structure CalM (P : Program) (w : World) (K : PySem.W.Frag) (mg : Str → Option Value) (base : Heap) (k : Nat) (x : Str) (sp : Sp) : Prop where
  ex : ∃ (f : Addr) (fd : FuncData) (ps : List Str), FnM P w K mg base CX0 k f fd ps sp ∧ mg x = some (.ref f) ∧ PySem.W.keepIn K (.ref f) = true ∧ Binds K fd ps []
section
variable {X : Cx} {k j : Nat} {x m : Str} {sp : Sp} {p pos apos : Pos} {e o : Expr} {es : List Expr} {ta : TE} {t : TA}
theorem e_callM (c : CalM X.prog X.w X.K X.mg X.base k x sp) (hr : L2H.RoomH j X.A) (hk : k ≤ j) (hg : Gl X x) (ha : PA X (e :: es) t)
    (hdb : (x == ("__debug__" : Str)) = false := by decide) (he : starEach (e :: es) X.env = (false, eval e X.env) :: starEach es X.env := by rfl) (hpl : (backTo pos (starEach es X.env)).any (·.1) = false := by rfl) :
    PE X (.Call (.Name x p) (e :: es) [] pos) (tCall sp [] E0 t) := by
  obtain ⟨f, fd, ps, F, hm, kp, b⟩ := c.ex
  refine ⟨fun pins s σ H Q I h => ?_⟩
  refine wpAny_Call_Name_kw (ld_glob I hg hm ?_ hdb)
  refine PySem.W.callWith_K (h₀ := X.base) I.ok.mod.kin kp (thn (ha.run pos pins s σ H _ I h) fun us s1 ⟨vs, H1, I1, r, q⟩ => ⟨I1.kIn, ?_⟩) he hpl
  have q : sp vs H1 Q E0 := by
    have q' : sp (vs ++ []) H1 Q E0 := q
    simpa only [List.append_nil] using q'
  have hl : us.length = ps.length := by rw [← r.length]; exact F.len _ _ _ _ q
  have b' := b s1 us I1.kIn (by rw [List.append_nil]; exact hl)
  rw [List.append_nil] at b'
  refine wpAny_call (codeAny_mono (F.run X.A X.stack s1 H1 ⟨us, []⟩ us vs Q E0 (hr.mono hk) I1.env0 b' r q) fun r s' hq => ?_)
  cases r with
  | error e => exact hq.elim
  | ok fl =>
    cases fl with
    | ret u => exact I1.after hq
    | next => exact False.elim hq
    | brk => exact False.elim hq
    | cont => exact False.elim hq
end
theorem hu64M {k : Nat} {A : Around} (r : L2H.RoomH k A) : A.units + 64 < cLine := by have := r.un; omega
theorem hu65M {k : Nat} {A : Around} (r : L2H.RoomH k A) : A.units + 65 < cLine := by have := r.un; omega
/-! ### try -/
def tTryW (K : PySem.W.Frag) (c : Value) (i : Nat) (ts : TS) (tb : WX → TS) : TS := fun D σ H => tb (wValW K c i (fun _ _ => ts) (fun _ _ _ _ => False) D) D σ H
theorem r_tryW {K : PySem.W.Frag} {c : Value} {i : Nat} {ts : TS} {tb : WX → TS} {D : Ends} {σ : L2.St} {H : Hp} (h : tb (wValW K c i (fun _ _ => ts) (fun _ _ _ _ => False) D) D σ H) : tTryW K c i ts tb D σ H := h
theorem w_valW {K : PySem.W.Frag} {c cls : Value} {i : Nat} {ts : TS} {D : Ends} {σ : L2.St} {H : Hp} (hm : PySem.W.exmOne K cls c = some true)
    (h : ∀ a, H a = none → ts { nx := fun σ' H' => D.nx (σ'.set i none) H', rt := D.rt, bk := fun _ _ => False, ct := fun _ _ => False } (σ.set i (some (.ref a))) (upd H a (ExV cls a))) : wValW K c i (fun _ _ => ts) (fun _ _ _ _ => False) D cls none σ H :=
  ⟨rfl, true, hm, fun _ a ha => h a ha, fun z => nomatch z⟩
section
variable {X : Cx} {x n : Str} {c : Value} {i : Nat} {body suite : List Stmt} {b₀ : Stmt} {np pos pos' : Pos} {tb : WX → TS} {ts : TS}
theorem ps_tryW (hs : X.stack = X.env :: X.outer) (hf : X.env.frame = some X.env.locals) (hN : X.N.Nodup) (hi : X.N[i]? = some n) (hln : X.env.kindOf n = some .local) (hc : Names X x c) (hex : X.ex = [])
    (hb : ∀ (W : WX) (pn : List (Addr × Obj)) (xe : Value → Shared → Prop), Takes (X.tr pn xe) W → PassesOwn (model X.prog X.w) X.A X.env xe → PSs (X.tr pn xe) body (tb W))
    (hsu : ∀ (a : Addr) (pn : List (Addr × Obj)), PSs (X.suite a pn) (b₀ :: suite) ts) :
    PS X (.Try body [.ExceptHandler (some (.Name x np)) (some n) (b₀ :: suite) pos'] [] [] pos) (tTryW X.K c i ts tb) :=
  ps_try_valW (tb := tb) (ts := fun _ _ => ts) hs hf hN hi hln hc takes0 hex (fun W pn xe tk po => hb W pn xe tk po) fun a _ pn => hsu a pn
end
end Hm

namespace Hm
open PySem L2
/-! F3m: the reading's steps. kaf_suf: one step; kaf_pre: what stands at an address; tlg_ne: two addresses differ. -/
local macro_rules | `(tactic| tlg_ne) => `(tactic| first
  | with_reducible assumption
  | with_reducible exact Ne.symm (by assumption)
  | (refine' ne_old (by assumption) ?a; (case a => (kaf_pre; done)))
  | (refine' ne_new (by assumption) ?a; (case a => (kaf_pre; done)))
  | fail "tlg_ne")
local macro_rules | `(tactic| kaf_pre) => `(tactic| first
  | with_reducible assumption
  | ((with_reducible refine' upd_at ?a); (case a => rfl))
  | ((first
      | (with_reducible refine' get_new (by assumption) ?b)
      | ((with_reducible refine' get_set ?a ?b); (case a => (tlg_ne; done)))
      | ((with_reducible refine' Keep.get (by assumption) ?a ?b); (case a => (first | assumption | (intro z; exact z.elim) | fail "kaf_pre")))
      | fail "kaf_pre"); (case b => (kaf_pre; done)))
  | ((fail_if_success (with_reducible refine' is_upd ?_)); assumption)
  | ((with_reducible refine' get_setK ?a ?b ?e); (case a => (kaf_pre; done)); (case b => (kaf_pre; done)); (case e => (intro z; cases z; done)))
  | fail "kaf_pre")
local macro_rules | `(tactic| isplit) => `(tactic| first
  | assumption
  | ((with_reducible refine' seq_new (by assumption) ?a); (case a => (isplit; done)))
  | ((with_reducible refine' seq_keep (by assumption) ?a); (case a => (isplit; done))))
local macro_rules | `(tactic| kaf_suf) => `(tactic| first
  | with_reducible refine r_seq ?_
  | with_reducible refine r_asg ?_
  | ((with_reducible refine' r_var ?a ?_); (case a => rfl))
  | with_reducible refine r_c ?_
  | with_reducible refine r_gname ?_
  | with_reducible refine r_op ?_
  | with_reducible refine r_cons ?_
  | with_reducible refine r_nil ?_
  | with_reducible refine r_cb ?_
  | with_reducible refine r_call ?_
  | with_reducible refine r_meth ?_
  | with_reducible refine r_fld ?_
  | with_reducible refine r_if ?_
  | with_reducible refine r_test ?_
  | with_reducible refine r_kB ?_
  | with_reducible refine r_ite_tt ?_
  | with_reducible refine r_ite_ff ?_
  | with_reducible refine r_ite_nt ?_
  | with_reducible refine r_ite_nf ?_
  | ((with_reducible refine' r_iteT' ?a ?_); (case a => first | assumption | rfl | omega))
  | ((with_reducible refine' r_iteF' ?a ?_); (case a => first | assumption | omega))
  | ((with_reducible refine' r_iteNT' ?a ?_); (case a => first | assumption | omega))
  | ((with_reducible refine' r_iteNF' ?a ?_); (case a => first | assumption | rfl | omega))
  | with_reducible refine r_next ?_
  | with_reducible refine r_nx ?_
  | with_reducible refine r_rt ?_
  | with_reducible refine r_bk ?_
  | with_reducible refine r_ct ?_
  | with_reducible refine r_drop ?_
  | with_reducible refine r_ret ?_
  | with_reducible refine v_add ?_
  | with_reducible refine v_sub ?_
  | with_reducible refine v_eq ?_
  | with_reducible refine v_ne ?_
  | with_reducible refine v_lt ?_
  | with_reducible refine v_le ?_
  | with_reducible refine v_gt ?_
  | with_reducible refine v_ge ?_
  | ((with_reducible refine' v_mod ?a ?_); (case a => first | assumption | decide | omega))
  | ((with_reducible refine' v_mul ?a ?_); (case a => first | assumption | decide | omega))
  | ((with_reducible refine' v_div ?a ?_); (case a => first | assumption | decide | omega))
  | ((with_reducible refine' v_pow ?a ?_); (case a => exact ⟨by decide, by decide, by decide⟩))
  | ((with_reducible refine' v_ixL ?a ?b ?_); (case a => (kaf_pre; done)); (case b => (first | assumption | rfl)))
  | ((with_reducible refine' v_ixT ?a ?b ?_); (case a => (kaf_pre; done)); (case b => (first | assumption | rfl)))
  | ((with_reducible refine' v_lenL ?a ?_); (case a => (kaf_pre; done)))
  | ((with_reducible refine' v_lenT ?a ?_); (case a => (kaf_pre; done)))
  | ((with_reducible refine' v_lenK ?a ?_); (case a => (isplit; done)))
  | ((with_reducible refine' v_ixK ?a ?b ?_); (case a => (isplit; done)); (case b => (first | assumption | rfl)))
  | ((with_reducible refine' v_append ?a ?b ?_); (case a => (kaf_pre; done)); (case b => first | assumption | exact few1 (by simp; omega)))
  | ((with_reducible refine' r_krng1 ?a ?_); (case a => first | assumption | decide | omega))
  | with_reducible refine v_int ?_
  | with_reducible refine v_intB ?_
  | with_reducible refine v_max ?_
  | with_reducible refine v_min ?_
  | with_reducible refine r_and ?_
  | with_reducible refine r_or ?_
  | with_reducible refine r_not ?_
  | with_reducible refine r_tup ?_
  | with_reducible refine r_lst ?_
  | ((with_reducible refine' r_ktup ?a ?_); (case a => (simp; done)))
  | ((with_reducible refine' r_klst ?a ?_); (case a => (simp; done)))
  | with_reducible refine r_bm ?_
  | with_reducible refine r_bm0 ?_
  | ((with_reducible refine' r_kbm_l ?a ?_); (case a => (kaf_pre; done)))
  | with_reducible refine r_gsub ?_
  | ((with_reducible refine' v_setL ?a ?b ?_); (case a => (kaf_pre; done)); (case b => first | assumption | rfl))
  | with_reducible refine r_sfld ?_
  | with_reducible refine r_make ?_
  | with_reducible refine r_for ?_
  | with_reducible refine r_rng1 ?_
  | with_reducible refine r_iany ?_
  | ((with_reducible refine' r_kiterL ?a ?_); (case a => (kaf_pre; done)))
  | ((with_reducible refine' r_kiterT ?a ?_); (case a => (kaf_pre; done)))
  | with_reducible refine r_lc ?_
  | with_reducible refine r_yes ?_
  | with_reducible refine r_chain ?_
  | with_reducible refine r_andV ?_
  | with_reducible refine r_orV ?_
  | with_reducible refine r_notV ?_
  | with_reducible refine r_tru ?_
  | with_reducible refine r_tru_bl ?_
  | with_reducible refine r_un ?_
  | with_reducible refine r_rU ?_
  | with_reducible refine r_sl ?_
  | with_reducible refine r_nopart ?_
  | with_reducible refine r_part ?_
  | with_reducible refine r_kI ?_
  | with_reducible refine r_rev ?_
  | with_reducible refine r_lstRg1 ?_
  | with_reducible refine r_krg ?_
  | with_reducible refine v_isN ?_
  | with_reducible refine v_notN ?_
  | with_reducible refine v_isB ?_
  | with_reducible refine v_notB ?_
  | with_reducible refine v_eqS ?_
  | with_reducible refine v_neS ?_
  | ((with_reducible refine' v_isiI ?a ?_); (case a => first | with_reducible exact kit_int_int | with_reducible exact kit_int_bool | with_reducible exact kit_int_list | with_reducible exact kit_int_tuple | with_reducible exact kit_int_str))
  | ((with_reducible refine' v_isiB ?a ?_); (case a => first | with_reducible exact kit_bool_int | with_reducible exact kit_bool_bool | with_reducible exact kit_bool_list | with_reducible exact kit_bool_tuple | with_reducible exact kit_bool_str))
  | ((with_reducible refine' v_isiS ?a ?_); (case a => first | with_reducible exact kit_str_int | with_reducible exact kit_str_bool | with_reducible exact kit_str_list | with_reducible exact kit_str_tuple | with_reducible exact kit_str_str))
  | ((with_reducible refine' v_isiL ?a ?b ?_); (case a => (kaf_pre; done)); (case b => first | with_reducible exact kit_list_int | with_reducible exact kit_list_bool | with_reducible exact kit_list_list | with_reducible exact kit_list_tuple | with_reducible exact kit_list_str))
  | ((with_reducible refine' v_isiT ?a ?b ?_); (case a => (kaf_pre; done)); (case b => first | with_reducible exact kit_tuple_int | with_reducible exact kit_tuple_bool | with_reducible exact kit_tuple_list | with_reducible exact kit_tuple_tuple | with_reducible exact kit_tuple_str))
  | with_reducible refine r_brk ?_
  | with_reducible refine r_cont ?_
  | with_reducible refine r_par ?_
  | with_reducible refine r_par2 ?_
  | with_reducible refine v_abs ?_
  | ((with_reducible refine' v_listL ?a ?_); (case a => (kaf_pre; done)))
  | ((with_reducible refine' v_listT ?a ?_); (case a => (kaf_pre; done)))
  | ((with_reducible refine' v_set ?a ?b ?_); (case a => (kaf_pre; done)); (case b => first | assumption | omega | (simp; omega)))
  | ((with_reducible refine' v_sortedS ?a ?_); (case a => (kaf_pre; done)))
  | ((with_reducible refine' v_sortedL ?a ?_); (case a => (kaf_pre; done)))
  | ((with_reducible refine' v_tupleL ?a ?_); (case a => (kaf_pre; done)))
  | ((with_reducible refine' v_addL ?a ?b ?e ?_); (case a => (kaf_pre; done)); (case b => (kaf_pre; done)); (case e => first | assumption | exact few2 (by simp; omega)))
  | ((with_reducible refine' v_addT ?a ?b ?e ?_); (case a => (kaf_pre; done)); (case b => (kaf_pre; done)); (case e => first | assumption | exact few2 (by simp; omega))))

local macro_rules | `(tactic| kaf_suf) => `(tactic| first
  | with_reducible refine r_raiseC ?_
  | with_reducible refine r_raiseE ?_
  | with_reducible refine r_tryV ?_
  | with_reducible refine r_methS ?_
  | with_reducible refine r_callW ?_
  | with_reducible refine v_isiN kit_NoneType_int ?_)

local macro_rules | `(tactic| kaf_suf) => `(tactic| first
  | with_reducible refine r_tryW ?_)

local macro_rules | `(tactic| kaf_suf) => `(tactic| first
  | with_reducible refine r_gcons ?_
  | with_reducible refine r_gnil ?_
  | ((with_reducible refine' r_seqT ?a ?b ?_); (case a => (kaf_pre; done)); (case b => rfl))
  | ((with_reducible refine' r_seqL ?a ?b ?_); (case a => (kaf_pre; done)); (case b => rfl)))

def top (i : Nat) : Stmt := PySem.Challenge.pw_hotmoves_k27_number_games.main.body.getD i (.Pass ⟨0, 0, 0, 0⟩)
abbrev s_fraction : Stmt := top 9
abbrev s_is_bound : Stmt := top 10
abbrev s_whole_game : Stmt := top 11
abbrev s_put_number : Stmt := top 12
abbrev s_number_game : Stmt := top 13
abbrev s_Book_init : Stmt := inClass (top 15) 0
abbrev s_Book_need : Stmt := inClass (top 15) 1
abbrev s_Book_game : Stmt := inClass (top 15) 2
abbrev s_Book_lefts : Stmt := inClass (top 15) 3
abbrev s_Book_rights : Stmt := inClass (top 15) 4
abbrev s_Book_depth : Stmt := inClass (top 15) 5
abbrev s_Book_many : Stmt := inClass (top 15) 6
abbrev s_law_cell : Stmt := top 17
abbrev s_law_store : Stmt := top 18
abbrev s_law_take : Stmt := top 19
abbrev s_law_whole : Stmt := top 20
abbrev s_law_fraction : Stmt := top 21
abbrev s_law_halved : Stmt := top 22
abbrev s_law_bound : Stmt := top 23
abbrev s_law_due : Stmt := top 24
abbrev s_law_walked : Stmt := top 25
abbrev s_law_by_hand : Stmt := top 26
abbrev s_law_of_the_book : Stmt := top 27
abbrev s_law_bad : Stmt := top 28
abbrev s_law_refused : Stmt := top 29
abbrev s_law : Stmt := top 30
structure Cn where
  P : Program
  w : World
  K : PySem.W.Frag
  cGameError : Addr
  cNoGame : Addr
  cNoNumber : Addr
  cNoText : Addr
  cNoName : Addr
  cBook : Addr
structure Txt (c : Cn) (mg : Str → Option Value) : Prop where
  n_ValueError : mg "ValueError" = none
  n_abs : mg "abs" = none
  n_bool : mg "bool" = none
  n_int : mg "int" = none
  n_isinstance : mg "isinstance" = none
  n_len : mg "len" = none
  n_list : mg "list" = none
  n_max : mg "max" = none
  n_min : mg "min" = none
  n_range : mg "range" = none
  n_set : mg "set" = none
  n_sorted : mg "sorted" = none
  n_tuple : mg "tuple" = none
  n_zip : mg "zip" = none
  g_GameError : mg "GameError" = some (.ref c.cGameError)
  g_NoGame : mg "NoGame" = some (.ref c.cNoGame)
  g_NoNumber : mg "NoNumber" = some (.ref c.cNoNumber)
  g_NoText : mg "NoText" = some (.ref c.cNoText)
  g_NoName : mg "NoName" = some (.ref c.cNoName)
  g_Book : mg "Book" = some (.ref c.cBook)
  g_GREATEST : ∃ t, mg "GREATEST" = some (.int 12 t)
  g_GREATEST_BOTTOM : ∃ t, mg "GREATEST_BOTTOM" = some (.int 64 t)
  x_GameError : XCl c.K mg "GameError" c.cGameError
  m_GameError : PySem.W.exmOne c.K (.ref c.cGameError) (.ref c.cGameError) = some true
  x_NoGame : XCl c.K mg "NoGame" c.cNoGame
  m_NoGame : PySem.W.exmOne c.K (.ref c.cNoGame) (.ref c.cGameError) = some true
  x_NoName : XCl c.K mg "NoName" c.cNoName
  m_NoName : PySem.W.exmOne c.K (.ref c.cNoName) (.ref c.cGameError) = some true
  x_NoNumber : XCl c.K mg "NoNumber" c.cNoNumber
  m_NoNumber : PySem.W.exmOne c.K (.ref c.cNoNumber) (.ref c.cGameError) = some true
  x_NoText : XCl c.K mg "NoText" c.cNoText
  m_NoText : PySem.W.exmOne c.K (.ref c.cNoText) (.ref c.cGameError) = some true
  e_GameError : ExcC c.K c.cGameError
  iv_GameError : PySem.W.kitOne c.K (.ref c.cGameError) (.type "ValueError") = some true
  i_GameError_GameError : PySem.W.kitOne c.K (.ref c.cGameError) (.ref c.cGameError) = some true
  i_GameError_NoGame : PySem.W.kitOne c.K (.ref c.cGameError) (.ref c.cNoGame) = some false
  i_GameError_NoName : PySem.W.kitOne c.K (.ref c.cGameError) (.ref c.cNoName) = some false
  i_GameError_NoNumber : PySem.W.kitOne c.K (.ref c.cGameError) (.ref c.cNoNumber) = some false
  i_GameError_NoText : PySem.W.kitOne c.K (.ref c.cGameError) (.ref c.cNoText) = some false
  e_NoGame : ExcC c.K c.cNoGame
  iv_NoGame : PySem.W.kitOne c.K (.ref c.cNoGame) (.type "ValueError") = some true
  i_NoGame_GameError : PySem.W.kitOne c.K (.ref c.cNoGame) (.ref c.cGameError) = some true
  i_NoGame_NoGame : PySem.W.kitOne c.K (.ref c.cNoGame) (.ref c.cNoGame) = some true
  i_NoGame_NoName : PySem.W.kitOne c.K (.ref c.cNoGame) (.ref c.cNoName) = some false
  i_NoGame_NoNumber : PySem.W.kitOne c.K (.ref c.cNoGame) (.ref c.cNoNumber) = some false
  i_NoGame_NoText : PySem.W.kitOne c.K (.ref c.cNoGame) (.ref c.cNoText) = some false
  e_NoName : ExcC c.K c.cNoName
  iv_NoName : PySem.W.kitOne c.K (.ref c.cNoName) (.type "ValueError") = some true
  i_NoName_GameError : PySem.W.kitOne c.K (.ref c.cNoName) (.ref c.cGameError) = some true
  i_NoName_NoGame : PySem.W.kitOne c.K (.ref c.cNoName) (.ref c.cNoGame) = some false
  i_NoName_NoName : PySem.W.kitOne c.K (.ref c.cNoName) (.ref c.cNoName) = some true
  i_NoName_NoNumber : PySem.W.kitOne c.K (.ref c.cNoName) (.ref c.cNoNumber) = some false
  i_NoName_NoText : PySem.W.kitOne c.K (.ref c.cNoName) (.ref c.cNoText) = some false
  e_NoNumber : ExcC c.K c.cNoNumber
  mm_NoNumber : PySem.W.exmOne c.K (.ref c.cNoNumber) (.ref c.cNoNumber) = some true
  iv_NoNumber : PySem.W.kitOne c.K (.ref c.cNoNumber) (.type "ValueError") = some true
  i_NoNumber_GameError : PySem.W.kitOne c.K (.ref c.cNoNumber) (.ref c.cGameError) = some true
  i_NoNumber_NoGame : PySem.W.kitOne c.K (.ref c.cNoNumber) (.ref c.cNoGame) = some false
  i_NoNumber_NoName : PySem.W.kitOne c.K (.ref c.cNoNumber) (.ref c.cNoName) = some false
  i_NoNumber_NoNumber : PySem.W.kitOne c.K (.ref c.cNoNumber) (.ref c.cNoNumber) = some true
  i_NoNumber_NoText : PySem.W.kitOne c.K (.ref c.cNoNumber) (.ref c.cNoText) = some false
  e_NoText : ExcC c.K c.cNoText
  iv_NoText : PySem.W.kitOne c.K (.ref c.cNoText) (.type "ValueError") = some true
  i_NoText_GameError : PySem.W.kitOne c.K (.ref c.cNoText) (.ref c.cGameError) = some true
  i_NoText_NoGame : PySem.W.kitOne c.K (.ref c.cNoText) (.ref c.cNoGame) = some false
  i_NoText_NoName : PySem.W.kitOne c.K (.ref c.cNoText) (.ref c.cNoName) = some false
  i_NoText_NoNumber : PySem.W.kitOne c.K (.ref c.cNoText) (.ref c.cNoNumber) = some false
  i_NoText_NoText : PySem.W.kitOne c.K (.ref c.cNoText) (.ref c.cNoText) = some true
  cl_Book : Cls c.K c.cBook
  na_Book_depths : NoAttr c.K c.cBook "depths"
  na_Book_moves : NoAttr c.K c.cBook "moves"
  na_Book_numbers : NoAttr c.K c.cBook "numbers"
  F_fraction : ∃ (f : Addr) (fd : FuncData), Fun c.K "fraction" "fraction" s_fraction f fd ∧ mg "fraction" = some (.ref f) ∧ Binds c.K fd ["top", "bottom"] []
  F_is_bound : ∃ (f : Addr) (fd : FuncData), Fun c.K "is_bound" "is_bound" s_is_bound f fd ∧ mg "is_bound" = some (.ref f) ∧ Binds c.K fd ["q"] []
  F_whole_game : ∃ (f : Addr) (fd : FuncData), Fun c.K "whole_game" "whole_game" s_whole_game f fd ∧ mg "whole_game" = some (.ref f) ∧ Binds c.K fd ["book", "n"] []
  F_put_number : ∃ (f : Addr) (fd : FuncData), Fun c.K "put_number" "put_number" s_put_number f fd ∧ mg "put_number" = some (.ref f) ∧ Binds c.K fd ["book", "q"] []
  F_number_game : ∃ (f : Addr) (fd : FuncData), Fun c.K "number_game" "number_game" s_number_game f fd ∧ mg "number_game" = some (.ref f) ∧ Binds c.K fd ["book", "q"] []
  F_Book_init : ∃ (f : Addr) (fd : FuncData), Fun c.K "__init__" "Book.__init__" s_Book_init f fd ∧ Mk c.K c.cBook f ∧ Binds c.K fd ["self"] []
  F_Book_need : ∃ (f : Addr) (fd : FuncData), Fun c.K "need" "Book.need" s_Book_need f fd ∧ Meth c.K c.cBook "need" f ∧ Binds c.K fd ["self", "g"] []
  F_Book_game : ∃ (f : Addr) (fd : FuncData), Fun c.K "game" "Book.game" s_Book_game f fd ∧ Meth c.K c.cBook "game" f ∧ Binds c.K fd ["self", "lefts", "rights"] []
  F_Book_lefts : ∃ (f : Addr) (fd : FuncData), Fun c.K "lefts" "Book.lefts" s_Book_lefts f fd ∧ Meth c.K c.cBook "lefts" f ∧ Binds c.K fd ["self", "g"] []
  F_Book_rights : ∃ (f : Addr) (fd : FuncData), Fun c.K "rights" "Book.rights" s_Book_rights f fd ∧ Meth c.K c.cBook "rights" f ∧ Binds c.K fd ["self", "g"] []
  F_Book_depth : ∃ (f : Addr) (fd : FuncData), Fun c.K "depth" "Book.depth" s_Book_depth f fd ∧ Meth c.K c.cBook "depth" f ∧ Binds c.K fd ["self", "g"] []
  F_Book_many : ∃ (f : Addr) (fd : FuncData), Fun c.K "many" "Book.many" s_Book_many f fd ∧ Meth c.K c.cBook "many" f ∧ Binds c.K fd ["self"] []
  F_law_cell : ∃ (f : Addr) (fd : FuncData), Fun c.K "_law_cell" "_law_cell" s_law_cell f fd ∧ mg "_law_cell" = some (.ref f) ∧ Binds c.K fd ["script", "k"] []
  F_law_store : ∃ (f : Addr) (fd : FuncData), Fun c.K "_law_store" "_law_store" s_law_store f fd ∧ mg "_law_store" = some (.ref f) ∧ Binds c.K fd ["cell"] []
  F_law_take : ∃ (f : Addr) (fd : FuncData), Fun c.K "_law_take" "_law_take" s_law_take f fd ∧ mg "_law_take" = some (.ref f) ∧ Binds c.K fd ["store", "many"] []
  F_law_whole : ∃ (f : Addr) (fd : FuncData), Fun c.K "_law_whole" "_law_whole" s_law_whole f fd ∧ mg "_law_whole" = some (.ref f) ∧ Binds c.K fd ["found"] []
  F_law_halved : ∃ (f : Addr) (fd : FuncData), Fun c.K "_law_halved" "_law_halved" s_law_halved f fd ∧ mg "_law_halved" = some (.ref f) ∧ Binds c.K fd ["top", "bottom"] []
  F_law_bound : ∃ (f : Addr) (fd : FuncData), Fun c.K "_law_bound" "_law_bound" s_law_bound f fd ∧ mg "_law_bound" = some (.ref f) ∧ Binds c.K fd ["store", "most", "deepest"] []
  F_law_due : ∃ (f : Addr) (fd : FuncData), Fun c.K "_law_due" "_law_due" s_law_due f fd ∧ mg "_law_due" = some (.ref f) ∧ Binds c.K fd ["q"] []
  F_law_walked : ∃ (f : Addr) (fd : FuncData), Fun c.K "_law_walked" "_law_walked" s_law_walked f fd ∧ mg "_law_walked" = some (.ref f) ∧ Binds c.K fd ["book", "q", "g", "known"] []
  F_law_by_hand : ∃ (f : Addr) (fd : FuncData), Fun c.K "_law_by_hand" "_law_by_hand" s_law_by_hand f fd ∧ mg "_law_by_hand" = some (.ref f) ∧ Binds c.K fd ["book", "q", "known"] []
  F_law_of_the_book : ∃ (f : Addr) (fd : FuncData), Fun c.K "_law_of_the_book" "_law_of_the_book" s_law_of_the_book f fd ∧ mg "_law_of_the_book" = some (.ref f) ∧ Binds c.K fd ["book", "known"] []
  F_law_bad : ∃ (f : Addr) (fd : FuncData), Fun c.K "_law_bad" "_law_bad" s_law_bad f fd ∧ mg "_law_bad" = some (.ref f) ∧ Binds c.K fd ["store"] []
  F_law_refused : ∃ (f : Addr) (fd : FuncData), Fun c.K "_law_refused" "_law_refused" s_law_refused f fd ∧ mg "_law_refused" = some (.ref f) ∧ Binds c.K fd ["book", "q"] []
abbrev Fr := Int × Int
/-! fractions as they stand, how wide they are -/
def Wd (n : Nat) (x : Int) : Prop := x.natAbs < 2 ^ n
theorem Wd.mono {m n : Nat} {x : Int} (h : Wd m x) (k : m ≤ n) : Wd n x := Nat.lt_of_lt_of_le h (Nat.pow_le_pow_right (by decide) k)
theorem Wd.mul {m n : Nat} {x y : Int} (h : Wd m x) (k : Wd n y) : Wd (m + n) (x * y) := by
  unfold Wd at *
  rw [Int.natAbs_mul, Nat.pow_add]
  exact Nat.mul_lt_mul'' h k
theorem Wd.add {m : Nat} {x y : Int} (h : Wd m x) (k : Wd m y) : Wd (m + 1) (x + y) := by
  unfold Wd at *
  have := Int.natAbs_add_le x y
  rw [Nat.pow_succ]; omega
theorem Wd.neg {m : Nat} {x : Int} (h : Wd m x) : Wd m (-x) := by unfold Wd at *; rw [Int.natAbs_neg]; exact h
theorem Wd.sub {m : Nat} {x y : Int} (h : Wd m x) (k : Wd m y) : Wd (m + 1) (x - y) := h.add k.neg
theorem Wd.one {n : Nat} (h : 0 < n) : Wd n 1 := by
  have : 2 ^ 1 ≤ 2 ^ n := Nat.pow_le_pow_right (by decide) h
  unfold Wd
  show 1 < 2 ^ n
  omega
theorem Wd.zero {n : Nat} : Wd n 0 := Nat.pow_pos (by decide)
theorem Wd.div {m : Nat} {x d : Int} (h : Wd m x) (d0 : 0 < d) : Wd (m + 1) (x / d) := by
  have e := Int.mul_ediv_add_emod x d
  have r0 := Int.emod_nonneg x (show d ≠ 0 by omega)
  have r1 := Int.emod_lt_of_pos x d0
  have : (x / d).natAbs ≤ x.natAbs + 1 := by
    rcases Int.le_total 0 (x / d) with q | q
    · have : x / d ≤ d * (x / d) := by
        have := Int.mul_le_mul_of_nonneg_right (show 1 ≤ d by omega) q
        omega
      omega
    · by_cases z : x / d = 0
      · rw [z]; omega
      · have s : d * (x / d + 1) ≤ 1 * (x / d + 1) := Int.mul_le_mul_of_nonpos_right (show 1 ≤ d by omega) (by omega)
        rw [Int.mul_add, Int.mul_one] at s
        omega
  unfold Wd at *
  rw [Nat.pow_succ]
  have := Nat.pow_pos (n := m) (show 0 < 2 by decide)
  omega
theorem Wd.cmul {a b : Nat} {x y : Int} (h : Wd a x) (k : Wd b y) (n : a + b ≤ 900000) : CMulW x y := wide_mul (h.mono (Nat.le_succ a)) (k.mono (Nat.le_succ b)) (by omega) (by omega) (by omega)
theorem Wd.cdiv {b : Nat} {x y : Int} (d0 : 0 < y) (k : Wd b y) (n : b ≤ 8000) : CDivW x y := wide_div d0 (k.mono (Nat.le_succ b)) (by omega) (by omega)
def WdF (n : Nat) (q : Fr) : Prop := Wd n q.1 ∧ Wd n q.2
theorem non_ref (u : Addr) : ¬ (V.ref u = V.non) := fun z => by cases z
/-- the fraction q at v -/
def FrV (H : Hp) (v : V) (q : Fr) : Prop := ∃ t, v = .ref t ∧ H t = some (.tup [.int q.1, .int q.2])
def FrO (H : Hp) (v : V) : Option Fr → Prop
  | none => v = .non
  | some q => FrV H v q
theorem FrV.keep {H H' : Hp} {v : V} {q : Fr} (h : FrV H v q) (k : Keep Nil H H') : FrV H' v q := by
  obtain ⟨t, rfl, e⟩ := h
  exact ⟨t, rfl, k.get (fun z => z) e⟩
theorem FrO.keep {H H' : Hp} {v : V} {o : Option Fr} (h : FrO H v o) (k : Keep Nil H H') : FrO H' v o := by
  cases o with
  | none => exact h
  | some q => exact FrV.keep h k
theorem Wd.le {n : Nat} {x y : Int} (h : Wd n y) (a : 0 ≤ x) (b : x ≤ y) : Wd n x := by unfold Wd at *; omega
theorem Wd.nat {n : Nat} {x y : Int} (h : Wd n y) (k : x.natAbs ≤ y.natAbs) : Wd n x := Nat.lt_of_le_of_lt k h
theorem w10 (x : Int) (h : x.natAbs < 2 ^ 10) {n : Nat} (k : 10 ≤ n) : Wd n x := Wd.mono (m := 10) h k
theorem FrV.keepM {M : Addr → Prop} {H H' : Hp} {v : V} {q : Fr} (h : FrV H v q) (k : Keep M H H') (n : ∀ t, H t = some (.tup [.int q.1, .int q.2]) → ¬ M t) : FrV H' v q := by
  obtain ⟨t, rfl, e⟩ := h
  exact ⟨t, rfl, k.get (n t e) e⟩

/-! the law's store of draws -/
theorem atI_get {xs : List V} {i : Int} {v : V} {n : Nat} (h : xs[n]? = some v) (e : i = n) : atI xs i = some v := by
  subst e
  have hn : n < xs.length := (List.getElem?_eq_some_iff.mp h).1
  unfold atI ixN
  rw [if_pos (Int.natCast_nonneg n), if_pos (by omega)]
  simpa using h
abbrev N_law_cell : List Str := ["script", "k"]
theorem sc_law_cell : FnScope N_law_cell ["script", "k"] (defScope s_law_cell) := ⟨rfl, rfl, rfl, by decide +kernel, rfl, by decide +kernel, by decide +kernel⟩
def t_law_cell (c : Cn) : TS :=
  (tSeq (tIfS (tTest (tOp (cLt c.K) (tVar 1) (tCB (kLen c.K) (tCons (tVar 0) tNil))))
  (tRet (tOp (bIx c.P c.w c.K) (tVar 0) (tVar 1)))
  tNext)
  (tRet (tOp (bAdd c.K) (tOp (bAdd c.K) (tOp bMul (tOp bMul (tC (.int 7)) (tVar 1)) (tVar 1)) (tOp bMul (tC (.int 3)) (tVar 1))) (tC (.int 11)))))
def sp_law_cell (c : Cn) : Sp := fun vs H Q E => vs.length = 2 ∧ ∃ (a : Addr) (ns : List Int) (k : Nat), vs = [.ref a, .int k] ∧ SqL c.K H a (ns.map V.int) ∧ ns.length ≤ 63 ∧ k ≤ 100 ∧ ∀ z : Int, Q (.int z) H
theorem p_law_cell {c : Cn} {mg : Str → Option Value} (T : Txt c mg) {vs : List V} {H : Hp} {Q : VK} {E : XK} (h : sp_law_cell c vs H Q E) : t_law_cell c { nx := fun _ H' => Q .non H', rt := Q } (start N_law_cell vs) H := by
  obtain ⟨_, a, ns, i, rfl, hs, few, i9, k⟩ := h
  unfold t_law_cell
  repeat kaf_suf
  refine r_ite (fun p => ?_) (fun p => ?_)
  · rw [List.length_map] at p
    obtain ⟨z, hz⟩ : ∃ z, ns[i]? = some z := ⟨_, List.getElem?_eq_getElem (by omega)⟩
    have hx : atI (ns.map V.int) (i : Int) = some (.int z) := atI_get (n := i) (by rw [List.getElem?_map, hz]; rfl) rfl
    repeat kaf_suf
    exact k _
  · repeat kaf_suf
    exact k _
theorem cal_law_cell {c : Cn} {mg : Str → Option Value} {base : Heap} (T : Txt c mg) : Cal c.P c.w c.K mg base CX0 1 "_law_cell" (sp_law_cell c) := by
  obtain ⟨f, fd, F, g, b⟩ := T.F_law_cell
  exact ⟨f, fd, ["script", "k"], F.ok (k := 0) (N := N_law_cell) sc_law_cell (fun vs H Q E h => h.1) (fun cdv A outer s H vs Q E hr h => ⟨t_law_cell c, by
  exact (pss_cons (ps_if (pt_cmpR (o_lt (hu64 hr)) (pv 1) (pe_callB k_len (by rfl) T.n_len (by decide +kernel) (pa_cons (pv 0) pa_nil)) (nomark _)) (pss_one (ps_ret (pe_ix (x_ix (hu64 hr)) (pv 0) (pv 1) (fun _ _ => rfl)))) pss_nil)
  (pss_one (ps_ret (pe_op o_add (pe_op o_add (pe_op o_mul (pe_op o_mul pe_int (pv 1)) (pv 1)) (pe_op o_mul pe_int (pv 1))) pe_int)))), p_law_cell T h⟩), g, F.kp, b⟩
/-- the store at a -/
def StA (H : Hp) (a : Addr) : Prop := ∃ g z n : Int, H a = some (.lst [.int g, .int z, .int n]) ∧ 0 ≤ z ∧ z < 2147483629
abbrev N_law_store : List Str := ["cell", "great"]
theorem sc_law_store : FnScope N_law_store ["cell"] (defScope s_law_store) := ⟨rfl, rfl, rfl, by decide +kernel, rfl, by decide +kernel, by decide +kernel⟩
def t_law_store (c : Cn) : TS :=
  (tSeq (tAsg (tC (.int 0)) (gName 1))
  (C8.tCut (tIfS (tTest (tOp cGe (tVar 0) (tOp bPow (tC (.int 10)) (tC (.int 18)))))
  (tAsg (tVar 0) (gName 1))
  tNext)
  (tRet (tLst (tCons (tVar 1) (tCons (tOp bMod (tVar 0) (tC (.int 2147483629))) (tCons (tC (.int 1)) tNil)))))))
def sp_law_store (c : Cn) : Sp := fun vs H Q E => vs.length = 1 ∧ ∃ (z : Int), vs = [.int z] ∧ ∀ (p : Addr) (H' : Hp), H p = none → Keep Nil H H' → StA H' p → Q (.ref p) H'
theorem p_law_store {c : Cn} {mg : Str → Option Value} (T : Txt c mg) {vs : List V} {H : Hp} {Q : VK} {E : XK} (h : sp_law_store c vs H Q E) : t_law_store c { nx := fun _ H' => Q .non H', rt := Q } (start N_law_store vs) H := by
  obtain ⟨_, z, rfl, k⟩ := h
  unfold t_law_store
  repeat kaf_suf
  refine ⟨fun σ H' => ∃ g : Int, σ = [some (.int z), some (.int g)] ∧ H' = H, ?_, ?_⟩
  · repeat kaf_suf
    refine r_ite (fun p => ?_) (fun p => ?_)
    · repeat kaf_suf
      exact ⟨_, rfl, rfl⟩
    · repeat kaf_suf
      exact ⟨_, rfl, rfl⟩
  rintro σ H' ⟨g, rfl, rfl⟩
  repeat kaf_suf
  intro p hp
  exact k p _ hp (Keep.alloc hp) ⟨g, z % 2147483629, 1, upd_same, by omega, by omega⟩
theorem cal_law_store {c : Cn} {mg : Str → Option Value} {base : Heap} (T : Txt c mg) : Cal c.P c.w c.K mg base CX0 1 "_law_store" (sp_law_store c) := by
  obtain ⟨f, fd, F, g, b⟩ := T.F_law_store
  exact ⟨f, fd, ["cell"], F.ok (k := 0) (N := N_law_store) sc_law_store (fun vs H Q E h => h.1) (fun cdv A outer s H vs Q E hr h => ⟨t_law_store c, by
  exact (pss_cons (ps_set (i := 1) sc_law_store.nd rfl (Or.inl rfl) pe_int)
  (C8.pss_cut (ps_if (pt_cmpR o_ge (pv 0) (pe_op o_pow pe_int pe_int) (nomark _)) (pss_one (ps_set (i := 1) sc_law_store.nd rfl (Or.inl rfl) (pv 0))) pss_nil)
  (pss_one (ps_ret (pe_lst (pa_cons (pv 1) (pa_cons (pe_op o_mod (pv 0) pe_int) (pa_cons pe_int pa_nil)))))))), p_law_store T h⟩), g, F.kp, b⟩
abbrev N_law_take : List Str := ["store", "many", "told", "one"]
theorem sc_law_take : FnScope N_law_take ["store", "many"] (defScope s_law_take) := ⟨rfl, rfl, rfl, by decide +kernel, rfl, by decide +kernel, by decide +kernel⟩
def t_law_take (c : Cn) : TS :=
  (tSeq (tIfS (tTest (tOp cGt (tOp (bIx c.P c.w c.K) (tVar 0) (tC (.int 0))) (tC (.int 0))))
  (tSeq (tAsg (tOp bMod (tOp (bIx c.P c.w c.K) (tVar 0) (tC (.int 0))) (tVar 1)) (gName 2))
  (tSeq (tAsg (tOp bDiv (tOp (bIx c.P c.w c.K) (tVar 0) (tC (.int 0))) (tVar 1)) (gSub (tVar 0) (tC (.int 0)) (bSet c.P c.w)))
  (tRet (tVar 2))))
  tNext)
  (tSeq (tAsg (tOp (bAdd c.K) (tOp (bIx c.P c.w c.K) (tVar 0) (tC (.int 2))) (tC (.int 1))) (gSub (tVar 0) (tC (.int 2)) (bSet c.P c.w)))
  (tSeq (tAsg (tOp bMod (tOp bMul (tOp (bAdd c.K) (tOp (bIx c.P c.w c.K) (tVar 0) (tC (.int 1))) (tOp bMul (tC (.int 7919)) (tOp (bIx c.P c.w c.K) (tVar 0) (tC (.int 2))))) (tC (.int 48271))) (tC (.int 2147483647))) (gName 3))
  (tSeq (tAsg (tOp bMod (tOp bMul (tVar 3) (tVar 3)) (tC (.int 2147483629))) (gName 3))
  (tSeq (tAsg (tOp bMod (tOp bMul (tOp (bAdd c.K) (tVar 3) (tOp bMul (tC (.int 40692)) (tOp (bIx c.P c.w c.K) (tVar 0) (tC (.int 2))))) (tC (.int 69621))) (tC (.int 2147483587))) (gName 3))
  (tRet (tOp bMod (tOp bDiv (tVar 3) (tC (.int 8))) (tVar 1))))))))
def sp_law_take (c : Cn) : Sp := fun vs H Q E => vs.length = 2 ∧ ∃ (a : Addr) (m : Int), vs = [.ref a, .int m] ∧ StA H a ∧ 0 < m ∧ Wd 1000 m ∧ ∀ (H' : Hp) (x : Int), Keep (fun y => y = a) H H' → StA H' a → 0 ≤ x → x < m → Q (.int x) H'
theorem p_law_take {c : Cn} {mg : Str → Option Value} (T : Txt c mg) {vs : List V} {H : Hp} {Q : VK} {E : XK} (h : sp_law_take c vs H Q E) : t_law_take c { nx := fun _ H' => Q .non H', rt := Q } (start N_law_take vs) H := by
  obtain ⟨_, a, m, rfl, ⟨g, z, n, e, z0, z1⟩, m0, wm, k⟩ := h
  unfold t_law_take
  repeat kaf_suf
  refine r_ite (fun p => ?_) (fun p => ?_)
  · repeat kaf_suf
    refine v_divW (Wd.cdiv m0 wm (by decide)) ?_
    repeat kaf_suf
    exact k _ _ (Keep.refl.set rfl) ⟨_, _, _, upd_same, z0, z1⟩ (Int.emod_nonneg _ (by omega)) (Int.emod_lt_of_pos _ m0)
  · repeat kaf_suf
    refine v_mulR (by omega) ?_
    repeat kaf_suf
    refine v_mulR (by omega) ?_
    repeat kaf_suf
    exact k _ _ (Keep.refl.set rfl) ⟨_, _, _, upd_same, z0, z1⟩ (Int.emod_nonneg _ (by omega)) (Int.emod_lt_of_pos _ m0)
theorem cal_law_take {c : Cn} {mg : Str → Option Value} {base : Heap} (T : Txt c mg) : Cal c.P c.w c.K mg base CX0 1 "_law_take" (sp_law_take c) := by
  obtain ⟨f, fd, F, g, b⟩ := T.F_law_take
  exact ⟨f, fd, ["store", "many"], F.ok (k := 0) (N := N_law_take) sc_law_take (fun vs H Q E h => h.1) (fun cdv A outer s H vs Q E hr h => ⟨t_law_take c, by
  exact (pss_cons (ps_if (pt_cmpR o_gt (pe_ix (x_ix (hu64 hr)) (pv 0) pe_int (fun _ _ => rfl)) pe_int (nomark _)) (pss_cons (ps_set (i := 2) sc_law_take.nd rfl (Or.inl rfl) (pe_op o_mod (pe_ix (x_ix (hu64 hr)) (pv 0) pe_int (fun _ _ => rfl)) (pv 1)))
  (pss_cons (ps_asg (pe_op o_div (pe_ix (x_ix (hu64 hr)) (pv 0) pe_int (fun _ _ => rfl)) (pv 1)) (pg_sub (pv 0) pe_int (s_set (hu64 hr))))
  (pss_one (ps_ret (pv 2))))) pss_nil)
  (pss_cons (ps_asg (pe_op o_add (pe_ix (x_ix (hu64 hr)) (pv 0) pe_int (fun _ _ => rfl)) pe_int) (pg_sub (pv 0) pe_int (s_set (hu64 hr))))
  (pss_cons (ps_set (i := 3) sc_law_take.nd rfl (Or.inl rfl) (pe_op o_mod (pe_op o_mul (pe_op o_add (pe_ix (x_ix (hu64 hr)) (pv 0) pe_int (fun _ _ => rfl)) (pe_op o_mul pe_int (pe_ix (x_ix (hu64 hr)) (pv 0) pe_int (fun _ _ => rfl)))) pe_int) pe_int))
  (pss_cons (ps_set (i := 3) sc_law_take.nd rfl (Or.inl rfl) (pe_op o_mod (pe_op o_mul (pv 3) (pv 3)) pe_int))
  (pss_cons (ps_set (i := 3) sc_law_take.nd rfl (Or.inl rfl) (pe_op o_mod (pe_op o_mul (pe_op o_add (pv 3) (pe_op o_mul pe_int (pe_ix (x_ix (hu64 hr)) (pv 0) pe_int (fun _ _ => rfl)))) pe_int) pe_int))
  (pss_one (ps_ret (pe_op o_mod (pe_op o_div (pv 3) pe_int) (pv 1))))))))), p_law_take T h⟩), g, F.kp, b⟩

/-! the book -/
/-- the rising list of the members -/
def ins (x : Int) : List Int → List Int
  | [] => [x]
  | y :: r => if x < y then x :: y :: r else if x = y then y :: r else y :: ins x r
def canon (l : List Int) : List Int := l.foldr ins []
theorem ins_mem {x z : Int} : ∀ {l : List Int}, z ∈ ins x l ↔ z = x ∨ z ∈ l
  | [] => by simp [ins]
  | y :: r => by
    unfold ins
    split
    · simp
    · split
      · rename_i e; subst e; simp
      · rw [List.mem_cons, ins_mem, List.mem_cons]; constructor
        · rintro (h | h | h) <;> simp [h]
        · rintro (h | h | h) <;> simp [h]
theorem ins_up {x : Int} : ∀ {l : List Int}, l.Pairwise (· < ·) → (ins x l).Pairwise (· < ·)
  | [], _ => by simp [ins]
  | y :: r, h => by
    have h' := List.pairwise_cons.mp h
    unfold ins
    split
    · rename_i lt
      refine List.pairwise_cons.mpr ⟨fun z hz => ?_, h⟩
      rcases List.mem_cons.mp hz with e | hz
      · omega
      · have := h'.1 z hz; omega
    · split
      · exact h
      · refine List.pairwise_cons.mpr ⟨fun z hz => ?_, ins_up h'.2⟩
        rcases ins_mem.mp hz with e | hz
        · omega
        · exact h'.1 z hz
theorem canon_mem {z : Int} : ∀ {l : List Int}, z ∈ canon l ↔ z ∈ l
  | [] => by simp [canon]
  | y :: r => by
    show z ∈ ins y (canon r) ↔ _
    rw [ins_mem, canon_mem, List.mem_cons]
theorem canon_up : ∀ (l : List Int), (canon l).Pairwise (· < ·)
  | [] => List.Pairwise.nil
  | y :: r => ins_up (canon_up r)
theorem up_eq : ∀ {a b : List Int}, a.Pairwise (· < ·) → b.Pairwise (· < ·) → (∀ z, z ∈ a ↔ z ∈ b) → a = b
  | [], [], _, _, _ => rfl
  | [], y :: r, _, _, h => absurd ((h y).mpr List.mem_cons_self) (by simp)
  | x :: a, [], _, _, h => absurd ((h x).mp List.mem_cons_self) (by simp)
  | x :: a, y :: b, ha, hb, h => by
    have ha' := List.pairwise_cons.mp ha
    have hb' := List.pairwise_cons.mp hb
    have e : x = y := by
      rcases List.mem_cons.mp ((h x).mp List.mem_cons_self) with e | h1
      · exact e
      · rcases List.mem_cons.mp ((h y).mpr List.mem_cons_self) with e | h2
        · exact e.symm
        · have := hb'.1 x h1; have := ha'.1 y h2; omega
    subst e
    refine congrArg (x :: ·) (up_eq ha'.2 hb'.2 fun z => ⟨fun hz => ?_, fun hz => ?_⟩)
    · rcases List.mem_cons.mp ((h z).mp (List.mem_cons_of_mem _ hz)) with e | h1
      · have := ha'.1 z hz; omega
      · exact h1
    · rcases List.mem_cons.mp ((h z).mpr (List.mem_cons_of_mem _ hz)) with e | h1
      · have := hb'.1 z hz; omega
      · exact h1
theorem canon_eq {l ns : List Int} (h1 : ns.Pairwise (· < ·)) (h2 : ∀ z, z ∈ ns ↔ z ∈ l) : ns = canon l := up_eq h1 (canon_up l) fun z => by rw [h2, canon_mem]
theorem ins_len (x : Int) : ∀ (l : List Int), (ins x l).length ≤ l.length + 1
  | [] => by simp [ins]
  | y :: r => by
    have := ins_len x r
    unfold ins
    split
    · simp
    · split
      · simp
      · simp only [List.length_cons]; omega
theorem canon_len' : ∀ (l : List Int), (canon l).length ≤ l.length
  | [] => by simp [canon]
  | y :: r => by
    have h1 := canon_len' r
    have h2 := ins_len y (canon r)
    show (ins y (canon r)).length ≤ _
    simp only [List.length_cons]; omega
theorem canon_self {l : List Int} (h : l.Pairwise (· < ·)) : canon l = l := (canon_eq h fun _ => Iff.rfl).symm
/-- a game: left's moves, right's -/
abbrev Gm := List Int × List Int
def gkey (g : Gm) : NestedKey := .tup [.tup (g.1.map .num), .tup (g.2.map .num)]
theorem num_inj : ∀ {a b : List Int}, a.map NestedKey.num = b.map NestedKey.num → a = b
  | [], [], _ => rfl
  | [], _ :: _, h => by simp at h
  | _ :: _, [], h => by simp at h
  | x :: a, y :: b, h => by
    rw [List.map_cons, List.map_cons] at h
    injection h with h1 h2
    injection h1 with h1
    rw [h1, num_inj h2]
theorem gkey_inj {a b : Gm} (h : gkey a = gkey b) : a = b := by
  unfold gkey at h
  injection h with h
  injection h with h1 h2
  injection h1 with h1
  injection h2 with h2 _
  injection h2 with h2
  exact Prod.ext (num_inj h1) (num_inj h2)
/-- the depths of the moves -/
def dps (ds ms : List Int) : List Int := ms.map fun m => ds[m.toNat]?.getD 0
def deepest (ds : List Int) (ms : List Int) (d : Int) : Prop := (ms = [] → d = 0) ∧ (∀ x ∈ dps ds ms, x + 1 ≤ d) ∧ (ms ≠ [] → ∃ x ∈ dps ds ms, d = x + 1)
theorem dps_more {ds e ms : List Int} (h : ∀ m ∈ ms, 0 ≤ m ∧ m < ds.length) : dps (ds ++ e) ms = dps ds ms := by
  refine List.map_congr_left fun m hm => ?_
  obtain ⟨h1, h2⟩ := h m hm
  rw [List.getElem?_append_left (by omega)]
/-- what holds of a book's games -/
structure GOk (gs : List Gm) : Prop where
  zero : gs[0]? = some ([], [])
  nd : gs.Nodup
  up : ∀ g ∈ gs, g.1.Pairwise (· < ·) ∧ g.2.Pairwise (· < ·)
  low : ∀ (i : Nat) (g : Gm), gs[i]? = some g → ∀ m ∈ g.1 ++ g.2, 0 ≤ m ∧ m < i
/-- the depths -/
structure DOk (gs : List Gm) (ds : List Int) : Prop where
  len : ds.length = gs.length
  at_ : ∀ (i : Nat) (g : Gm) (d : Int), gs[i]? = some g → ds[i]? = some d → deepest ds (g.1 ++ g.2) d
def bookFs (mv nm dp : Addr) : List (Str × V) := [("moves", .ref mv), ("numbers", .ref nm), ("depths", .ref dp)]
theorem bookFs_moves {mv nm dp : Addr} : (bookFs mv nm dp).lookup ("moves" : Str) = some (.ref mv) := by rfl
theorem bookFs_numbers {mv nm dp : Addr} : (bookFs mv nm dp).lookup ("numbers" : Str) = some (.ref nm) := by rfl
theorem bookFs_depths {mv nm dp : Addr} : (bookFs mv nm dp).lookup ("depths" : Str) = some (.ref dp) := by rfl
theorem bookFs_need {mv nm dp : Addr} : (bookFs mv nm dp).lookup ("need" : Str) = none := by rfl
theorem bookFs_game {mv nm dp : Addr} : (bookFs mv nm dp).lookup ("game" : Str) = none := by rfl
theorem bookFs_lefts {mv nm dp : Addr} : (bookFs mv nm dp).lookup ("lefts" : Str) = none := by rfl
theorem bookFs_rights {mv nm dp : Addr} : (bookFs mv nm dp).lookup ("rights" : Str) = none := by rfl
theorem bookFs_depth {mv nm dp : Addr} : (bookFs mv nm dp).lookup ("depth" : Str) = none := by rfl
theorem bookFs_many {mv nm dp : Addr} : (bookFs mv nm dp).lookup ("many" : Str) = none := by rfl
/-- the tuple at t is the game g -/
def GAt (H : Hp) (t : Addr) (g : Gm) : Prop := ∃ a b, H t = some (.tup [.ref a, .ref b]) ∧ H a = some (.tup (g.1.map V.int)) ∧ H b = some (.tup (g.2.map V.int))
structure BookAt (c : Cn) (H : Hp) (b : Addr) (M : Addr → Prop) (gs : List Gm) (ds : List Int) : Prop where
  ok : GOk gs
  dok : DOk gs ds
  ex : ∃ (dx mv nm dp : Addr) (ts : List Addr) (xs : List NX), H b = some (.ins c.cBook dx (bookFs mv nm dp)) ∧ H mv = some (.lst (ts.map V.ref)) ∧ Paired (GAt H) ts gs ∧
    NdAt c.P c.w H nm xs ∧ xs.length = gs.length ∧ (∀ g : Gm, nval xs (gkey g) = if g ∈ gs then some (V.int (gs.idxOf g)) else none) ∧ H dp = some (.lst (ds.map V.int)) ∧
    M mv ∧ M nm ∧ M dp ∧ mv ≠ dp ∧ ∀ x, M x → x = mv ∨ x = nm ∨ x = dp
theorem BookAt.ins_ {c : Cn} {H : Hp} {b : Addr} {M : Addr → Prop} {gs : List Gm} {ds : List Int} (B : BookAt c H b M gs ds) : ∃ dx mv nm dp, H b = some (.ins c.cBook dx (bookFs mv nm dp)) := by
  obtain ⟨dx, mv, nm, dp, _, _, h, _⟩ := B.ex
  exact ⟨dx, mv, nm, dp, h⟩
theorem paired_get {α β : Type} {R : α → β → Prop} : ∀ {xs : List α} {ys : List β} {i : Nat} {y : β}, Paired R xs ys → ys[i]? = some y → ∃ x, xs[i]? = some x ∧ R x y
  | _, _, _, _, .nil, h => by simp at h
  | _, _, 0, _, .cons r _, h => by simp at h; subst h; exact ⟨_, rfl, r⟩
  | _, _, i + 1, _, .cons _ t, h => by
    obtain ⟨x, h1, h2⟩ := paired_get (i := i) t (by simpa using h)
    exact ⟨x, by simpa using h1, h2⟩
theorem paired_keep {α β : Type} {R S : α → β → Prop} {xs : List α} {ys : List β} (h : Paired R xs ys) (f : ∀ a b, R a b → S a b) : Paired S xs ys := Paired.mapP h f
theorem GAt.keep {H H' : Hp} {t : Addr} {g : Gm} (h : GAt H t g) (k : ∀ b xs, H b = some (.tup xs) → H' b = some (.tup xs)) : GAt H' t g := by
  obtain ⟨a, b, h1, h2, h3⟩ := h
  exact ⟨a, b, k _ _ h1, k _ _ h2, k _ _ h3⟩
section
variable {c : Cn} {H H' : Hp} {b : Addr} {M N : Addr → Prop} {gs : List Gm} {ds : List Int}
theorem BookAt.cell (B : BookAt c H b M gs ds) {x : Addr} (h : M x) : (∃ l, H x = some (.lst l)) ∨ ∃ φ, H x = some (.ext φ) := by
  obtain ⟨dx, mv, nm, dp, ts, xs, _, h2, _, h4, _, _, h7, _, _, _, _, h8⟩ := B.ex
  rcases h8 x h with rfl | rfl | rfl
  · exact .inl ⟨_, h2⟩
  · exact .inr ⟨_, h4.here⟩
  · exact .inl ⟨_, h7⟩
theorem BookAt.new (B : BookAt c H b M gs ds) {x : Addr} (h : H x = none) : ¬ M x := fun z => by
  rcases B.cell z with ⟨_, e⟩ | ⟨_, e⟩ <;> rw [h] at e <;> cases e
theorem BookAt.tupN (B : BookAt c H b M gs ds) {x : Addr} {l : List V} (h : H x = some (.tup l)) : ¬ M x := fun z => by
  rcases B.cell z with ⟨_, e⟩ | ⟨_, e⟩ <;> rw [h] at e <;> cases e
theorem BookAt.insN (B : BookAt c H b M gs ds) {x C dx : Addr} {l : List (Str × V)} (h : H x = some (.ins C dx l)) : ¬ M x := fun z => by
  rcases B.cell z with ⟨_, e⟩ | ⟨_, e⟩ <;> rw [h] at e <;> cases e
theorem BookAt.keep (B : BookAt c H b M gs ds) (k : Keep N H H') (n : ∀ x, N x → ∃ l, H x = some (.lst l)) (d : ∀ x, M x → ¬ N x) : BookAt c H' b M gs ds := by
  obtain ⟨dx, mv, nm, dp, ts, xs, h1, h2, h3, h4, h5, h6, h7, m1, m2, m3, ne, h8⟩ := B.ex
  have kt : ∀ q ys, H q = some (.tup ys) → H' q = some (.tup ys) := fun q ys e => k _ _ (fun z => by obtain ⟨l, e'⟩ := n q z; rw [e] at e'; cases e') e
  refine ⟨B.ok, B.dok, dx, mv, nm, dp, ts, xs, k _ _ (fun z => ?_) h1, k _ _ (d _ m1) h2, paired_keep h3 fun t g q => q.keep kt, ⟨k _ _ (d _ m2) h4.here, fun x hx => ⟨NkV.keeps kt _ _ (h4.keys x hx).1, (h4.keys x hx).2⟩⟩, h5, h6, k _ _ (d _ m3) h7, m1, m2, m3, ne, h8⟩
  obtain ⟨l, e'⟩ := n b z; rw [h1] at e'; cases e'
theorem BookAt.same (B : BookAt c H b M gs ds) (k : Keep Nil H H') : BookAt c H' b M gs ds := B.keep k (fun _ z => z.elim) fun _ _ z => z
theorem BookAt.pos (B : BookAt c H b M gs ds) : 0 < gs.length := by
  have := B.ok.zero
  exact (List.getElem?_eq_some_iff.mp this).1
end
local macro_rules | `(tactic| kaf_suf) => `(tactic| first
  | ((with_reducible refine' r_kfld ?a (Txt.cl_Book (by assumption)) (Txt.na_Book_moves (by assumption)) bookFs_moves ?_); (case a => (kaf_pre; done)))
  | ((with_reducible refine' r_kfld ?a (Txt.cl_Book (by assumption)) (Txt.na_Book_numbers (by assumption)) bookFs_numbers ?_); (case a => (kaf_pre; done)))
  | ((with_reducible refine' r_kfld ?a (Txt.cl_Book (by assumption)) (Txt.na_Book_depths (by assumption)) bookFs_depths ?_); (case a => (kaf_pre; done)))
  | ((with_reducible refine' r_kmeth ?a ?b ?_); (case a => (kaf_pre; done)); (case b => (first | exact bookFs_need | exact bookFs_game | exact bookFs_lefts | exact bookFs_rights | exact bookFs_depth | exact bookFs_many))))

/-- what is a game's number, what is none -/
def GoodV (n : Nat) (v : V) : Prop := ∃ i : Int, v = .int i ∧ 0 ≤ i ∧ i < n
inductive BadV (H : Hp) (n : Nat) : V → Prop
  | int {i : Int} : (i < 0 ∨ (n : Int) ≤ i) → BadV H n (.int i)
  | bl (b : Bool) : BadV H n (.bl b)
  | non : BadV H n .non
  | str (s : Str) : BadV H n (.str s)
  | lst {a : Addr} {xs : List V} : H a = some (.lst xs) → BadV H n (.ref a)
  | tup {a : Addr} {xs : List V} : H a = some (.tup xs) → BadV H n (.ref a)
  | dic {a : Addr} {kvs : List (L2.Key × V)} : H a = some (.dK kvs) → BadV H n (.ref a)
theorem BadV.keep {H H' : Hp} {n : Nat} {v : V} (b : BadV H n v) (k : Keep Nil H H') : BadV H' n v := by
  cases b with
  | int h => exact .int h
  | bl b => exact .bl b
  | non => exact .non
  | str s => exact .str s
  | lst h => exact .lst (k.get (fun z => z) h)
  | tup h => exact .tup (k.get (fun z => z) h)
  | dic h => exact .dic (k.get (fun z => z) h)
theorem GoodV.not {H : Hp} {n : Nat} {v : V} (g : GoodV n v) (b : BadV H n v) : False := by
  obtain ⟨i, rfl, h0, h1⟩ := g
  cases b with
  | int h => omega
abbrev N_Book_need : List Str := ["self", "g"]
theorem sc_Book_need : FnScope N_Book_need ["self", "g"] (defScope s_Book_need) := ⟨rfl, rfl, rfl, by decide +kernel, rfl, by decide +kernel, by decide +kernel⟩
def t_Book_need (c : Cn) (E : XK) : TS :=
  (tIfS (tOr (tNot (tTru c.K (tCB (rIsi c.K) (tCons (tVar 1) (tCons (tC (.ty "int")) tNil))))) (tOr (tTru c.K (tCB (rIsi c.K) (tCons (tVar 1) (tCons (tC (.ty "bool")) tNil)))) (tOr (tTest (tOp (cLt c.K) (tVar 1) (tC (.int 0)))) (tTest (tOp cGe (tVar 1) (tCB (kLen c.K) (tCons (tFld c.K (tVar 0) "moves") tNil)))))))
  (tRaiseC c.cNoGame (fun cls d _ H => E cls d H))
  tNext)
def sp_Book_need (c : Cn) : Sp := fun vs H Q E => vs.length = 2 ∧ ∃ (b : Addr) (M : Addr → Prop) (gs : List Gm) (ds : List Int) (g : Int), vs = [.ref b, .int g] ∧ BookAt c H b M gs ds ∧ 0 ≤ g ∧ g < gs.length ∧ Q .non H
theorem p_Book_need {c : Cn} {mg : Str → Option Value} (T : Txt c mg) {vs : List V} {H : Hp} {Q : VK} {E : XK} (h : sp_Book_need c vs H Q E) : t_Book_need c E { nx := fun _ H' => Q .non H', rt := Q } (start N_Book_need vs) H := by
  obtain ⟨_, b, M, gs, ds, g, rfl, B, g0, g1, k⟩ := h
  obtain ⟨dx, mv, nm, dp, ts, xs, h1, h2, h3, h4, h5, h6, h7, m1, m2, m3, ne, h8⟩ := B.ex
  have hl : ((ts.map V.ref).length : Int) = gs.length := by rw [List.length_map, Paired.length h3]
  unfold t_Book_need
  repeat kaf_suf
  exact k
def sy_Book_need (c : Cn) : Sp := fun vs H Q E => vs.length = 2 ∧ ∃ (b : Addr) (M : Addr → Prop) (gs : List Gm) (ds : List Int) (v : V), vs = [.ref b, v] ∧ BookAt c H b M gs ds ∧ BadV H gs.length v ∧ E (.ref c.cNoGame) none H
theorem q_Book_need {c : Cn} {mg : Str → Option Value} (T : Txt c mg) {vs : List V} {H : Hp} {Q : VK} {E : XK} (h : sy_Book_need c vs H Q E) : t_Book_need c E { nx := fun _ H' => Q .non H', rt := Q } (start N_Book_need vs) H := by
  obtain ⟨_, b, M, gs, ds, v, rfl, B, bad, k⟩ := h
  obtain ⟨dx, mv, nm, dp, ts, xs, h1, h2, h3, h4, h5, h6, h7, m1, m2, m3, ne, h8⟩ := B.ex
  have hl : ((ts.map V.ref).length : Int) = gs.length := by rw [List.length_map, Paired.length h3]
  unfold t_Book_need
  have out : tRaiseC c.cNoGame (fun cls d _ H => E cls d H) { nx := fun _ H' => Q .non H', rt := Q } (start N_Book_need [V.ref b, v]) H := r_raiseC k
  cases bad with
  | @int i h =>
    by_cases lo : i < 0
    · (repeat kaf_suf)
      exact out
    · (repeat kaf_suf)
      exact out
  | bl b => (repeat kaf_suf); exact out
  | non => (repeat kaf_suf); exact out
  | str s => (repeat kaf_suf); exact out
  | lst h => (repeat kaf_suf); exact out
  | tup h => (repeat kaf_suf); exact out
  | dic h =>
    (repeat kaf_suf)
    refine v_isi (.ty "int") (.base (.dK h)) (kit_ty kit_dict_int) ?_
    (repeat kaf_suf)
    exact out
def sx_Book_need (c : Cn) : Sp := fun vs H Q E => vs.length = 2 ∧ (sp_Book_need c vs H Q E ∨ sy_Book_need c vs H Q E)
theorem metx_Book_need {c : Cn} {mg : Str → Option Value} {base : Heap} (T : Txt c mg) : Met c.P c.w c.K mg base (L2.CX c.P c.w) 1 c.cBook "need" (sx_Book_need c) := by
  obtain ⟨f, fd, F, g, b⟩ := T.F_Book_need
  exact ⟨f, fd, ["self", "g"], T.cl_Book, g, F.okX (k := 0) (N := N_Book_need) sc_Book_need (fun vs H Q E h => h.1) (fun cdv A outer s H vs Q E hr h => ⟨t_Book_need c E, by
  exact (pss_one (ps_if (PW.pt (pw_or (pt_not (p_tru (pe_callB k_isi (by rfl) T.n_isinstance (by decide +kernel) (pa_cons (pv 1) (pa_cons (pe_bltn rfl T.n_int (by decide +kernel) rfl) pa_nil))))) (pw_or (p_tru (pe_callB k_isi (by rfl) T.n_isinstance (by decide +kernel) (pa_cons (pv 1) (pa_cons (pe_bltn rfl T.n_bool (by decide +kernel) rfl) pa_nil)))) (pw_or (pt_cmpR (o_lt (hu64 hr)) (pv 1) pe_int (nomark _)) (pw_or1 (pt_cmpR o_ge (pv 1) (pe_callB k_len (by rfl) T.n_len (by decide +kernel) (pa_cons (pe_fld (pv 0) rfl) pa_nil)) (nomark _))))))) (pss_one (ps_raiseC rfl (takes_of rfl rfl rfl rfl) T.x_NoGame rfl)) pss_nil)), h.2.elim (p_Book_need T) (q_Book_need T)⟩), b⟩
theorem met_Book_need {c : Cn} {mg : Str → Option Value} {base : Heap} (T : Txt c mg) : Met c.P c.w c.K mg base (L2.CX c.P c.w) 1 c.cBook "need" (sp_Book_need c) := by
  obtain ⟨f, fd, ps, cl, m, F, b⟩ := (metx_Book_need T).ex
  exact ⟨⟨f, fd, ps, cl, m, F.imp fun vs H Q E h => ⟨h.1, .inl h⟩, b⟩⟩
/-! the games behind a putting -/
def addG (gs : List Gm) (k : Gm) : List Gm := if k ∈ gs then gs else gs ++ [k]
def ixG (gs : List Gm) (k : Gm) : Nat := gs.idxOf k
theorem nk_nums {H : Hp} : ∀ (l : List Int), NkVs H (l.map .num) (l.map V.int)
  | [] => by simp [NkVs]
  | x :: r => by
    simp only [List.map_cons, NkVs]
    exact ⟨_, _, rfl, by simp [NkV], nk_nums r⟩
theorem GAt.nk {H : Hp} {t : Addr} {g : Gm} (h : GAt H t g) : NkV H (gkey g) (.ref t) := by
  obtain ⟨a, b, h1, h2, h3⟩ := h
  unfold gkey
  simp only [NkV]
  refine ⟨t, _, rfl, h1, ?_⟩
  simp only [NkVs, NkV]
  exact ⟨_, _, rfl, ⟨a, _, rfl, h2, nk_nums _⟩, _, _, rfl, ⟨b, _, rfl, h3, nk_nums _⟩, rfl⟩
theorem dep_nums : ∀ (l : List Int), NestedKey.depthAll (l.map .num) ≤ 0
  | [] => by simp [NestedKey.depthAll]
  | x :: r => by
    have := dep_nums r
    simp only [List.map_cons, NestedKey.depthAll, NestedKey.depth]; omega
theorem gkey_depth (g : Gm) : (gkey g).depth ≤ 8 := by
  have h1 := dep_nums g.1
  have h2 := dep_nums g.2
  unfold gkey
  simp only [NestedKey.depth, NestedKey.depthAll]; omega
theorem nd_neL {P : Program} {w : World} {H : Hp} {a x : Addr} {xs : List NX} {l : List V} (N : NdAt P w H a xs) (h : H x = some (.lst l)) : x ≠ a := fun z => by
  rw [z, N.here] at h; unfold NdO at h; cases Option.some.inj h
theorem nd_neT {P : Program} {w : World} {H : Hp} {a x : Addr} {xs : List NX} {l : List V} (N : NdAt P w H a xs) (h : H x = some (.tup l)) : x ≠ a := fun z => by
  rw [z, N.here] at h; unfold NdO at h; cases Option.some.inj h
theorem nd_neI {P : Program} {w : World} {H : Hp} {a x C dx : Addr} {xs : List NX} {l : List (Str × V)} (N : NdAt P w H a xs) (h : H x = some (.ins C dx l)) : x ≠ a := fun z => by
  rw [z, N.here] at h; unfold NdO at h; cases Option.some.inj h
theorem lt_ne {H : Hp} {a x : Addr} {l m : List V} (N : H a = some (.lst m)) (h : H x = some (.tup l)) : x ≠ a := fun z => by
  rw [z, N] at h; cases h
theorem li_ne {H : Hp} {a x C dx : Addr} {l : List (Str × V)} {m : List V} (N : H a = some (.lst m)) (h : H x = some (.ins C dx l)) : x ≠ a := fun z => by
  rw [z, N] at h; cases h
theorem nput_new {xs : List NX} {k : NestedKey} {a : Addr} {v : V} (h : nval xs k = none) : nput xs k a v = xs ++ [(k, a, v)] := by
  unfold nput; rw [h]; rfl
theorem nval_snoc {xs : List NX} {k k' : NestedKey} {a : Addr} {v : V} : nval (xs ++ [(k, a, v)]) k' = (nval xs k').or (if k = k' then some v else none) := by
  unfold nval
  rw [List.find?_append]
  cases e : xs.find? fun x => decide (x.1 = k') with
  | some q => simp
  | none =>
    by_cases h : k = k'
    · simp [h]
    · simp [h]
theorem v_ninN {P : Program} {w : World} {K : PySem.W.Frag} {H : Hp} {Q : VK} {p a : Addr} {k : NestedKey} {xs : List NX} (N : NdAt P w H a xs) (kp : NkV H k (.ref p)) (d : k.depth ≤ 8) (q : Q (.bl (!(nval xs k).isSome)) H) : cNotIn P w K (.ref p) (.ref a) H Q := by
  refine .inr (.inr (.inr (.inr ⟨a, p, k, xs, rfl, rfl, N, kp, d, ?_⟩)))
  simpa using q
theorem v_inN {P : Program} {w : World} {K : PySem.W.Frag} {H : Hp} {Q : VK} {p a : Addr} {k : NestedKey} {xs : List NX} (N : NdAt P w H a xs) (kp : NkV H k (.ref p)) (d : k.depth ≤ 8) (q : Q (.bl (nval xs k).isSome) H) : cIn P w K (.ref p) (.ref a) H Q := by
  refine .inr (.inr (.inr (.inr ⟨a, p, k, xs, rfl, rfl, N, kp, d, ?_⟩)))
  simpa using q
theorem v_ixN {P : Program} {w : World} {K : PySem.W.Frag} {H : Hp} {Q : VK} {p a : Addr} {k : NestedKey} {xs : List NX} {v : V} (N : NdAt P w H a xs) (kp : NkV H k (.ref p)) (d : k.depth ≤ 8) (e : nval xs k = some v) (q : Q v H) : bIx P w K (.ref a) (.ref p) H Q :=
  .inr (.inr (.inr (.inr ⟨a, p, k, xs, v, rfl, rfl, N, kp, d, e, q⟩)))
theorem v_setN {P : Program} {w : World} {H : Hp} {Q : Hp → Prop} {p a : Addr} {k : NestedKey} {xs : List NX} {v : V} (N : NdAt P w H a xs) (kp : NkV H k (.ref p)) (d : k.depth ≤ 8) (l : xs.length < sizeLine) (q : Q (upd H a (NdO P w a (nput xs k p v)))) : bSet P w (.ref a) (.ref p) v H Q :=
  .inr (.inr ⟨a, p, k, xs, rfl, rfl, N, kp, d, l, q⟩)
theorem GOk.add {gs : List Gm} (o : GOk gs) {ls rs : List Int} (h : ∀ m ∈ ls ++ rs, 0 ≤ m ∧ m < gs.length) : GOk (addG gs (canon ls, canon rs)) := by
  unfold addG
  split
  · exact o
  · rename_i ni
    have pos : 0 < gs.length := (List.getElem?_eq_some_iff.mp o.zero).1
    refine ⟨?_, ?_, fun g hg => ?_, fun i g hi m hm => ?_⟩
    · rw [List.getElem?_append_left pos]; exact o.zero
    · refine List.nodup_append.mpr ⟨o.nd, by simp, fun a ha b hb => ?_⟩
      cases List.mem_singleton.mp hb
      exact fun z => ni (z ▸ ha)
    · rcases List.mem_append.mp hg with hg | hg
      · exact o.up g hg
      · cases List.mem_singleton.mp hg
        exact ⟨canon_up _, canon_up _⟩
    · by_cases lt : i < gs.length
      · rw [List.getElem?_append_left lt] at hi
        exact o.low i g hi m hm
      · have hl := (List.getElem?_eq_some_iff.mp hi).1
        have e : i = gs.length := by rw [List.length_append] at hl; simp at hl; omega
        subst e
        rw [List.getElem?_append_right (Nat.le_refl _)] at hi
        simp at hi
        subst hi
        rw [List.mem_append, canon_mem, canon_mem, ← List.mem_append] at hm
        exact h m hm
theorem DOk.add {gs : List Gm} {ds : List Int} (d : DOk gs ds) (o : GOk gs) {k : Gm} (h : ∀ m ∈ k.1 ++ k.2, 0 ≤ m ∧ m < gs.length) (ne : k.1 ++ k.2 ≠ []) {m : Int} (hm : m ∈ dps ds (k.1 ++ k.2)) (hx : ∀ x ∈ dps ds (k.1 ++ k.2), x ≤ m) : DOk (gs ++ [k]) (ds ++ [1 + m]) := by
  refine ⟨by simp [d.len], fun i g e hg he => ?_⟩
  by_cases lt : i < gs.length
  · rw [List.getElem?_append_left lt] at hg
    rw [List.getElem?_append_left (by rw [d.len]; exact lt)] at he
    have b : ∀ m ∈ g.1 ++ g.2, 0 ≤ m ∧ m < ds.length := fun m hm => by have := o.low i g hg m hm; rw [d.len]; omega
    unfold deepest
    rw [dps_more b]
    exact d.at_ i g e hg he
  · have hl := (List.getElem?_eq_some_iff.mp hg).1
    have e : i = gs.length := by rw [List.length_append] at hl; simp at hl; omega
    subst e
    rw [List.getElem?_append_right (Nat.le_refl _)] at hg
    rw [← d.len, List.getElem?_append_right (Nat.le_refl _)] at he
    simp at hg he
    subst hg he
    unfold deepest
    rw [dps_more (by rw [d.len]; exact h)]
    exact ⟨fun z => absurd z ne, fun x q => by have := hx x q; omega, fun _ => ⟨m, hm, by omega⟩⟩
theorem ixG_get {gs : List Gm} {k : Gm} (h : k ∈ gs) : gs[ixG gs k]? = some k := by
  have l := List.idxOf_lt_length_of_mem h
  rw [ixG, List.getElem?_eq_getElem l, List.getElem_idxOf l]
theorem addG_mem (gs : List Gm) (k : Gm) : k ∈ addG gs k := by
  unfold addG; split
  · assumption
  · simp
theorem addG_len {gs : List Gm} {k : Gm} : (addG gs k).length ≤ gs.length + 1 ∧ gs.length ≤ (addG gs k).length := by
  unfold addG; split <;> simp
theorem addG_get {gs : List Gm} {k g : Gm} {i : Nat} (h : gs[i]? = some g) : (addG gs k)[i]? = some g := by
  unfold addG; split
  · exact h
  · rw [List.getElem?_append_left (List.getElem?_eq_some_iff.mp h).1]; exact h
abbrev N_Book_game : List Str := ["self", "lefts", "rights", "g", "key"]
theorem sc_Book_game : FnScope N_Book_game ["self", "lefts", "rights"] (defScope s_Book_game) := ⟨rfl, rfl, rfl, by decide +kernel, rfl, by decide +kernel, by decide +kernel⟩
def t_Book_game (c : Cn) (E : XK) : TS :=
  (tSeq (tFor (iAny c.K (tOp (bAdd c.K) (tCB (kList c.K) (tCons (tVar 1) tNil)) (tCB (kList c.K) (tCons (tVar 2) tNil)))) (gName 3)
  (tDrop (tMeth c.cBook "need" (sx_Book_need c) [] E (tVar 0) (tCons (tVar 3) tNil))))
  (tSeq (tAsg (tTup (tCons (tCB (kTuple c.K) (tCons (tCB (kSorted c.K c.w) (tCons (tCB (uSetI c.K c.w) (tCons (tVar 1) tNil)) tNil)) tNil)) (tCons (tCB (kTuple c.K) (tCons (tCB (kSorted c.K c.w) (tCons (tCB (uSetI c.K c.w) (tCons (tVar 2) tNil)) tNil)) tNil)) tNil))) (gName 4))
  (C8.tCut (tIfS (tTest (tOp (cNotIn c.P c.w c.K) (tVar 4) (tFld c.K (tVar 0) "numbers")))
  (tSeq (tAsg (tCB (kLen c.K) (tCons (tFld c.K (tVar 0) "moves") tNil)) (gSub (tFld c.K (tVar 0) "numbers") (tVar 4) (bSet c.P c.w)))
  (tSeq (tDrop (tBM c.K "list" rAppend (tFld c.K (tVar 0) "moves") (tCons (tVar 4) tNil)))
  (tDrop (tBM c.K "list" rAppend (tFld c.K (tVar 0) "depths") (tCons (tOp (bAdd c.K) (tC (.int 1)) (tCB (kMax c.K) (tCons (tLc (iAny c.K (tOp (bAdd c.K) (tOp (bIx c.P c.w c.K) (tVar 4) (tC (.int 0))) (tOp (bIx c.P c.w c.K) (tVar 4) (tC (.int 1))))) (gName 3) tYes (tOp (bIx c.P c.w c.K) (tFld c.K (tVar 0) "depths") (tVar 3)) [3]) tNil))) tNil)))))
  tNext)
  (tRet (tOp (bIx c.P c.w c.K) (tFld c.K (tVar 0) "numbers") (tVar 4))))))
def sp_Book_game (c : Cn) : Sp := fun vs H Q E => vs.length = 3 ∧ ∃ (b l r : Addr) (M : Addr → Prop) (gs : List Gm) (ds ls rs : List Int), vs = [.ref b, .ref l, .ref r] ∧ BookAt c H b M gs ds ∧ H l = some (.lst (ls.map V.int)) ∧ H r = some (.lst (rs.map V.int)) ∧ ¬ M l ∧ ¬ M r ∧
  gs.length ≤ 90000 ∧ ls.length ≤ 4000 ∧ rs.length ≤ 4000 ∧ (∀ m ∈ ls ++ rs, 0 ≤ m ∧ m < gs.length) ∧
  ∀ (H' : Hp) (e : List Int), Keep M H H' → BookAt c H' b M (addG gs (canon ls, canon rs)) (ds ++ e) → Q (.int (ixG (addG gs (canon ls, canon rs)) (canon ls, canon rs))) H'
theorem p_Book_game {c : Cn} {mg : Str → Option Value} (T : Txt c mg) {vs : List V} {H : Hp} {Q : VK} {E : XK} (h : sp_Book_game c vs H Q E) : t_Book_game c E { nx := fun _ H' => Q .non H', rt := Q } (start N_Book_game vs) H := by
  obtain ⟨_, b, l, r, M, gs, ds, ls, rs, rfl, B, hl, hr, nl, nr, fw1, fw2, fw3, low, k⟩ := h
  unfold t_Book_game
  repeat kaf_suf
  intro p1 hp1
  repeat kaf_suf
  intro p2 hp2
  repeat kaf_suf
  intro p3 hp3
  repeat kaf_suf
  have kp3 : Keep Nil H (upd (upd (upd H p1 (.lst (ls.map V.int))) p2 (.lst (rs.map V.int))) p3 (.lst (ls.map V.int ++ rs.map V.int))) := ((Keep.alloc hp1).new hp2).new hp3
  have B3 := B.same kp3
  have hl3 := kp3.get (fun z => z) hl
  have hr3 := kp3.get (fun z => z) hr
  have h3 : upd (upd (upd H p1 (.lst (ls.map V.int))) p2 (.lst (rs.map V.int))) p3 (.lst (ls.map V.int ++ rs.map V.int)) p3 = some (.lst (ls.map V.int ++ rs.map V.int)) := upd_same
  generalize hH3 : upd (upd (upd H p1 (.lst (ls.map V.int))) p2 (.lst (rs.map V.int))) p3 (.lst (ls.map V.int ++ rs.map V.int)) = H3 at kp3 B3 hl3 hr3 h3 ⊢
  refine for_list (xs := ls.map V.int ++ rs.map V.int) (fun i σ H' => H' = H3 ∧ ∃ y, σ = [some (.ref b), some (.ref l), some (.ref r), y, none]) ⟨rfl, _, rfl⟩ ?_ ?_ ?_
  · rintro i σ H' hi ⟨rfl, y, rfl⟩; exact SqL.of h3
  · rintro i x σ H' hi ⟨rfl, y, rfl⟩
    obtain ⟨m, hm, rfl⟩ : ∃ m ∈ ls ++ rs, V.int m = x := by
      rw [← List.map_append] at hi
      have := List.mem_of_getElem? hi
      exact List.mem_map.mp this
    obtain ⟨hm0, hm1⟩ := low m hm
    obtain ⟨dx, mv, nm, dp, hb3⟩ := B3.ins_
    repeat kaf_suf
    refine ⟨rfl, .inl ⟨rfl, b, M, gs, ds, m, rfl, B3, hm0, hm1, ?_⟩⟩
    repeat kaf_suf
    exact ⟨rfl, _, rfl⟩
  · rintro σ H' ⟨rfl, y, rfl⟩
    have w1 : ls.length ≤ 4000 := by omega
    have w2 : rs.length ≤ 4000 := by omega
    repeat kaf_suf
    intro p4 c4 hp4 _
    repeat kaf_suf
    intro ns4 p5 u4 m4 _ hp5
    repeat kaf_suf
    intro p6 hp6
    repeat kaf_suf
    intro p7 c7 hp7 _
    repeat kaf_suf
    intro ns7 p8 u7 m7 _ hp8
    repeat kaf_suf
    intro p9 hp9
    repeat kaf_suf
    intro t ht
    repeat kaf_suf
    obtain rfl : ns4 = canon ls := canon_eq u4 (by simpa using m4)
    obtain rfl : ns7 = canon rs := canon_eq u7 (by simpa using m7)
    refine absS (S := fun HT => Keep Nil H HT ∧ GAt HT t (canon ls, canon rs)) ⟨?_, p6, p9, upd_same, by kaf_pre, by kaf_pre⟩ fun HT ⟨kT, gT⟩ => ?_
    · exact (((((((kp3.new hp4).new hp5).new hp6).new hp7).new hp8).new hp9).new ht)
    have BT := B.same kT
    obtain ⟨dx, mv, nm, dp, ts, xs, h1, h2, h3, h4, h5, h6, h7, m1, m2, m3, ne, h8⟩ := BT.ex
    have hlen := BT.dok.len
    have htl := Paired.length h3
    have hv := h6 (canon ls, canon rs)
    refine ⟨fun σ' H2 => ∃ y e, σ' = [some (.ref b), some (.ref l), some (.ref r), y, some (.ref t)] ∧ Keep M H H2 ∧ BookAt c H2 b M (addG gs (canon ls, canon rs)) (ds ++ e) ∧ GAt H2 t (canon ls, canon rs), ?_, ?_⟩
    · repeat kaf_suf
      refine v_ninN h4 gT.nk (gkey_depth _) ?_
      by_cases hin : (canon ls, canon rs) ∈ gs
      · rw [hv, if_pos hin]
        repeat kaf_suf
        exact ⟨_, [], rfl, kT.weak, by rw [List.append_nil, addG, if_pos hin]; exact BT, gT⟩
      · rw [hv, if_neg hin]
        rw [if_neg hin] at hv
        refine r_kB (r_ite_nf ?_)
        repeat kaf_suf
        have e1 := nd_neL h4 h2
        have e2 := nd_neL h4 h7
        have e3 := nd_neI h4 h1
        have e4 := li_ne h2 h1
        have e5 := li_ne h7 h1
        obtain ⟨ka, kb, t1, t2, t3⟩ := id gT
        have ea1 := nd_neT h4 t1
        have ea2 := lt_ne h2 t1
        have ea3 := lt_ne h7 t1
        have eb1 := nd_neT h4 t2
        have eb2 := lt_ne h2 t2
        have eb3 := lt_ne h7 t2
        have ec1 := nd_neT h4 t3
        have ec2 := lt_ne h2 t3
        have ec3 := lt_ne h7 t3
        refine v_setN h4 gT.nk (gkey_depth _) (few1 (by omega)) ?_
        rw [nput_new hv]
        repeat kaf_suf
        have g1 := canon_len' ls
        have g2 := canon_len' rs
        intro p H' hp' kp'
        repeat kaf_suf
        intro D hD
        have hall : ∀ m ∈ canon ls ++ canon rs, 0 ≤ m ∧ m < gs.length := fun m hm => low m (by rw [List.mem_append, canon_mem, canon_mem, ← List.mem_append] at hm; exact hm)
        have hDp : H' dp = some (.lst (ds.map V.int)) := by kaf_pre
        have hlen2 : (dps ds (canon ls ++ canon rs)).length = (canon ls ++ canon rs).length := List.length_map _
        refine lc_tup (xs := (canon ls).map V.int ++ (canon rs).map V.int) (fun i H2 => H2 D = some (.lst (((dps ds (canon ls ++ canon rs)).take i).map V.int)) ∧ Keep Nil H' H2) ⟨upd_same, Keep.alloc hD⟩ ?_ ?_ ?_
        · rintro i H2 _ ⟨_, k2⟩; exact SqT.of (by kaf_pre)
        · rintro i x H2 hi ⟨e2, k2⟩
          rw [← List.map_append, List.getElem?_map] at hi
          obtain ⟨m, hm, rfl⟩ := Option.map_eq_some_iff.mp hi
          obtain ⟨b1, b2⟩ := hall m (List.mem_of_getElem? hm)
          have hm' := (List.getElem?_eq_some_iff.mp hm).1
          rw [List.length_append] at hm'
          obtain ⟨n, rfl⟩ := Int.eq_ofNat_of_zero_le b1
          have hn : n < ds.length := by omega
          have hx : atI (ds.map V.int) (n : Int) = some (V.int ds[n]) := atI_get (n := n) (by simp [hn]) rfl
          repeat kaf_suf
          refine ⟨rfl, ?_⟩
          repeat kaf_suf
          refine ⟨_, e2, few1 (by simp; omega), ?_, k2.setN hD⟩
          rw [upd_same]
          have e : (dps ds (canon ls ++ canon rs))[i]? = some ds[n] := by
            rw [dps, List.getElem?_map, hm]; simp [hn]
          rw [List.take_succ, e]; simp
        · rintro H2 ⟨e2, k2⟩
          have e3 : H2 D = some (.lst ((dps ds (canon ls ++ canon rs)).map V.int)) := by
            rw [e2, List.take_of_length_le (by rw [hlen2]; simp)]
          repeat kaf_suf
          have ea : addG gs (canon ls, canon rs) = gs ++ [(canon ls, canon rs)] := if_neg hin
          have nee : canon ls ++ canon rs ≠ [] := fun z => by
            obtain ⟨z1, z2⟩ := List.append_eq_nil_iff.mp z
            rw [z1, z2] at hin
            exact hin (List.mem_of_getElem? B.ok.zero)
          refine v_maxL e3 (by rw [hlen2]; exact List.length_pos_iff.mpr nee) fun m hm hmax => ?_
          repeat kaf_suf
          have kf : Keep M HT (upd H2 dp (.lst (ds.map V.int ++ [V.int (1 + m)]))) := Keep.set (Keep.trans (Keep.trans (Keep.set (Keep.set Keep.refl m2) m1) kp'.weak) k2.weak) m3
          have kt : ∀ q ys, HT q = some (.tup ys) → (upd H2 dp (.lst (ds.map V.int ++ [V.int (1 + m)]))) q = some (.tup ys) := fun q ys e => kf q _ (BT.tupN e) e
          have gf := gT.keep kt
          have hnm : H' nm = some (NdO c.P c.w nm (xs ++ [(gkey (canon ls, canon rs), t, V.int ((ts.map V.ref).length : Nat))])) := kp'.get (fun z => z) (get_set e1.symm upd_same)
          refine ⟨_, [1 + m], rfl, kT.weak.trans kf, ⟨B.ok.add low, ?_, dx, mv, nm, dp, ts ++ [t], xs ++ [(gkey (canon ls, canon rs), t, V.int ((ts.map V.ref).length : Nat))], ?_, ?_, ?_, ⟨?_, ?_⟩, ?_, ?_, ?_, m1, m2, m3, ne, h8⟩, gf⟩
          · rw [ea]; exact B.dok.add B.ok hall nee hm hmax
          · kaf_pre
          · rw [List.map_append]; kaf_pre
          · rw [ea]; exact Paired.snoc (paired_keep h3 fun t g q => q.keep kt) gf
          · refine get_set ?_ (k2.get (fun z => z) hnm)
            tlg_ne
          · intro x hx
            rcases List.mem_append.mp hx with hx | hx
            · exact ⟨NkV.keeps kt _ _ (h4.keys x hx).1, (h4.keys x hx).2⟩
            · cases List.mem_singleton.mp hx
              exact ⟨gf.nk, gkey_depth _⟩
          · rw [ea]; simp [h5]
          · intro g
            rw [ea, nval_snoc, h6, List.length_map, htl]
            by_cases hg : g ∈ gs
            · rw [if_pos hg, if_pos (List.mem_append_left _ hg), List.idxOf_append, if_pos hg]; rfl
            · rw [if_neg hg]
              by_cases e : g = (canon ls, canon rs)
              · subst e
                rw [if_pos rfl, if_pos (List.mem_append_right _ List.mem_cons_self), List.idxOf_append, if_neg hg]
                simp
              · rw [if_neg (fun z => e (gkey_inj z).symm), if_neg (by simp [hg, e])]; rfl
          · rw [List.map_append]; exact upd_same
    · rintro σ' H2 ⟨y', e, rfl, k2, B2, g2⟩
      obtain ⟨dx, mv, nm, dp, ts, xs, h1, h2, h3, h4, h5, h6, h7, m1, m2, m3, ne, h8⟩ := B2.ex
      repeat kaf_suf
      refine v_ixN h4 g2.nk (gkey_depth _) ((h6 _).trans (if_pos (addG_mem _ _))) ?_
      repeat kaf_suf
      exact k H2 e k2 B2
/-- a putting with what is no game -/
def sy_Book_game (c : Cn) : Sp := fun vs H Q E => vs.length = 3 ∧ ∃ (b l r : Addr) (M : Addr → Prop) (gs : List Gm) (ds : List Int) (ls rs : List V), vs = [.ref b, .ref l, .ref r] ∧ BookAt c H b M gs ds ∧ H l = some (.lst ls) ∧ H r = some (.lst rs) ∧
  ls.length ≤ 4000 ∧ rs.length ≤ 4000 ∧ (∀ v ∈ ls ++ rs, GoodV gs.length v ∨ BadV H gs.length v) ∧ (∃ v ∈ ls ++ rs, BadV H gs.length v) ∧ ∀ H', Keep Nil H H' → E (.ref c.cNoGame) none H'
theorem q_Book_game {c : Cn} {mg : Str → Option Value} (T : Txt c mg) {vs : List V} {H : Hp} {Q : VK} {E : XK} (h : sy_Book_game c vs H Q E) : t_Book_game c E { nx := fun _ H' => Q .non H', rt := Q } (start N_Book_game vs) H := by
  obtain ⟨_, b, l, r, M, gs, ds, ls, rs, rfl, B, hl, hr, fw1, fw2, all, some_, k⟩ := h
  unfold t_Book_game
  repeat kaf_suf
  intro p1 hp1
  repeat kaf_suf
  intro p2 hp2
  repeat kaf_suf
  refine v_addL (by kaf_pre) (by kaf_pre) (few2 (by omega)) ?_
  intro p3 hp3
  repeat kaf_suf
  have kp3 : Keep Nil H (upd (upd (upd H p1 (.lst ls)) p2 (.lst rs)) p3 (.lst (ls ++ rs))) := ((Keep.alloc hp1).new hp2).new hp3
  have B3 := B.same kp3
  have h3 : upd (upd (upd H p1 (.lst ls)) p2 (.lst rs)) p3 (.lst (ls ++ rs)) p3 = some (.lst (ls ++ rs)) := upd_same
  generalize hH3 : upd (upd (upd H p1 (.lst ls)) p2 (.lst rs)) p3 (.lst (ls ++ rs)) = H3 at kp3 B3 h3 ⊢
  refine for_list (xs := ls ++ rs) (fun i σ H' => H' = H3 ∧ (∀ j v, j < i → (ls ++ rs)[j]? = some v → GoodV gs.length v) ∧ ∃ y, σ = [some (.ref b), some (.ref l), some (.ref r), y, none]) ⟨rfl, fun j v h => absurd h (Nat.not_lt_zero _), _, rfl⟩ ?_ ?_ ?_
  · rintro i σ H' hi ⟨rfl, _, y, rfl⟩; exact SqL.of h3
  · rintro i x σ H' hi ⟨rfl, gd, y, rfl⟩
    obtain ⟨dx, mv, nm, dp, hb3⟩ := B3.ins_
    repeat kaf_suf
    rcases all x (List.mem_of_getElem? hi) with g | bd
    · obtain ⟨m, rfl, hm0, hm1⟩ := id g
      refine ⟨rfl, .inl ⟨rfl, b, M, gs, ds, m, rfl, B3, hm0, hm1, ?_⟩⟩
      repeat kaf_suf
      refine ⟨rfl, fun j v hj hv => ?_, _, rfl⟩
      by_cases e : j = i
      · subst e; rw [hi] at hv; cases hv; exact g
      · exact gd j v (by omega) hv
    · exact ⟨rfl, .inr ⟨rfl, b, M, gs, ds, x, rfl, B3, bd.keep kp3, k _ kp3⟩⟩
  · rintro σ H' ⟨rfl, gd, y, rfl⟩
    obtain ⟨v, hv, bd⟩ := some_
    obtain ⟨j, hj, rfl⟩ := List.getElem_of_mem hv
    exact ((gd j _ hj (List.getElem?_eq_getElem hj)).not bd).elim
def sx_Book_game (c : Cn) : Sp := fun vs H Q E => vs.length = 3 ∧ (sp_Book_game c vs H Q E ∨ sy_Book_game c vs H Q E)
theorem metx_Book_game {c : Cn} {mg : Str → Option Value} {base : Heap} (T : Txt c mg) : Met c.P c.w c.K mg base (L2.CX c.P c.w) 2 c.cBook "game" (sx_Book_game c) := by
  obtain ⟨f, fd, F, g, b⟩ := T.F_Book_game
  exact ⟨f, fd, ["self", "lefts", "rights"], T.cl_Book, g, F.okX (k := 1) (N := N_Book_game) sc_Book_game (fun vs H Q E h => h.1) (fun cdv A outer s H vs Q E hr h => ⟨t_Book_game c E, by
  exact (pss_cons (ps_for (passes_of rfl) rfl (pi_any (pe_op o_add (pe_callTy (k_list rfl) (by rfl) T.n_list (by decide +kernel) (pa_cons (pv 1) pa_nil)) (pe_callTy (k_list rfl) (by rfl) T.n_list (by decide +kernel) (pa_cons (pv 2) pa_nil)))) (pg_name (i := 3) sc_Book_game.nd rfl (Or.inl rfl))
  (pss_one (ps_expr (e_meth (metx_Book_need T) hr (by decide) (passes_call (takes_of rfl rfl rfl rfl) fun _ _ _ _ z => z) (pv 0) (pa_cons (pv 3) pa_nil)))))
  (pss_cons (ps_set (i := 4) sc_Book_game.nd rfl (Or.inl rfl) (pe_tup (pa_cons (pe_callTy k_tuple (by rfl) T.n_tuple (by decide +kernel) (pa_cons (pe_callB (k_sorted rfl) (by rfl) T.n_sorted (by decide +kernel) (pa_cons (pe_callTy (k_set rfl) (by rfl) T.n_set (by decide +kernel) (pa_cons (pv 1) pa_nil)) pa_nil)) pa_nil)) (pa_cons (pe_callTy k_tuple (by rfl) T.n_tuple (by decide +kernel) (pa_cons (pe_callB (k_sorted rfl) (by rfl) T.n_sorted (by decide +kernel) (pa_cons (pe_callTy (k_set rfl) (by rfl) T.n_set (by decide +kernel) (pa_cons (pv 2) pa_nil)) pa_nil)) pa_nil)) pa_nil))))
  (C8.pss_cut (ps_if (pt_cmpR (o_notin (hu65 hr)) (pv 4) (pe_fld (pv 0) rfl) (by rfl)) (pss_cons (ps_asg (pe_callB k_len (by rfl) T.n_len (by decide +kernel) (pa_cons (pe_fld (pv 0) rfl) pa_nil)) (pg_sub (pe_fld (pv 0) rfl) (pv 4) (s_set (hu64 hr))))
  (pss_cons (ps_expr (pe_bm PySem.F.plainAttrs_list PySem.F.slot_list_append PySem.F.type_list_append mt_append (pe_fld (pv 0) rfl) (pa_cons (pv 4) pa_nil)))
  (pss_one (ps_expr (pe_bm PySem.F.plainAttrs_list PySem.F.slot_list_append PySem.F.type_list_append mt_append (pe_fld (pv 0) rfl) (pa_cons (pe_op o_add pe_int (pe_callB (k_max rfl) (by rfl) T.n_max (by decide +kernel) (pa_cons (pe_lc (own := [("g", 3)]) rfl sc_Book_game.nd (pi_any (pe_op o_add (pe_ix (x_ix (hu64 hr)) (pv 4) pe_int (fun _ _ => rfl)) (pe_ix (x_ix (hu64 hr)) (pv 4) pe_int (fun _ _ => rfl)))) (blkOk_by (own := [("g", 3)]) (N := N_Book_game) (sc := defScope s_Book_game) (by decide +kernel)) (fun _ _ _ _ _ => (pg_name (i := 3) sc_Book_game.nd rfl (Or.inl rfl))) (fun _ _ _ _ _ => pts_nil) (fun _ _ _ _ _ => (pe_ix (x_ix (hu64 hr)) (pe_fld (pv 0) rfl) (pv 3) (fun _ _ => rfl)))) pa_nil))) pa_nil)))))) pss_nil)
  (pss_one (ps_ret (pe_ix (x_ix (hu64 hr)) (pe_fld (pv 0) rfl) (pv 4) (fun _ _ => rfl))))))), h.2.elim (p_Book_game T) (q_Book_game T)⟩), b⟩
theorem met_Book_game {c : Cn} {mg : Str → Option Value} {base : Heap} (T : Txt c mg) : Met c.P c.w c.K mg base (L2.CX c.P c.w) 2 c.cBook "game" (sp_Book_game c) := by
  obtain ⟨f, fd, ps, cl, m, F, b⟩ := (metx_Book_game T).ex
  exact ⟨⟨f, fd, ps, cl, m, F.imp fun vs H Q E h => ⟨h.1, .inl h⟩, b⟩⟩
/-! the book as it is made; how many -/
theorem putF_0 {x : V} : putF ("moves" : Str) x [] = [(("moves" : Str), x)] := by rfl
theorem putF_1 {x y : V} : putF ("numbers" : Str) y [(("moves" : Str), x)] = [(("moves" : Str), x), (("numbers" : Str), y)] := by
  unfold putF; rw [if_neg (by decide)]; rfl
theorem putF_2 {x y z : V} : putF ("depths" : Str) z [(("moves" : Str), x), (("numbers" : Str), y)] = [(("moves" : Str), x), (("numbers" : Str), y), (("depths" : Str), z)] := by
  unfold putF; rw [if_neg (by decide)]; unfold putF; rw [if_neg (by decide)]; rfl
theorem GOk.one : GOk [([], [])] := ⟨rfl, by simp, fun g hg => by cases List.mem_singleton.mp hg; exact ⟨List.Pairwise.nil, List.Pairwise.nil⟩, fun i g h m hm => by
  cases i with
  | zero => simp at h; subst h; simp at hm
  | succ i => simp at h⟩
theorem DOk.one : DOk [([], [])] [0] := ⟨rfl, fun i g d h hd => by
  cases i with
  | zero => simp at h hd; subst h hd; exact ⟨fun _ => rfl, fun x hx => by simp [dps] at hx, fun z => absurd rfl z⟩
  | succ i => simp at h⟩
abbrev N_Book_init : List Str := ["self"]
theorem sc_Book_init : FnScope N_Book_init ["self"] (defScope s_Book_init) := ⟨rfl, rfl, rfl, by decide +kernel, rfl, by decide +kernel, by decide +kernel⟩
def t_Book_init (c : Cn) : TS :=
  (tSeq (sFld c.K (tVar 0) (tLst (tCons (tTup (tCons (tTup tNil) (tCons (tTup tNil) tNil))) tNil)) "moves")
  (tSeq (sFld c.K (tVar 0) (uDisp1 c.P c.w (tTup (tCons (tTup tNil) (tCons (tTup tNil) tNil))) (tC (.int 0))) "numbers")
  (sFld c.K (tVar 0) (tLst (tCons (tC (.int 0)) tNil)) "depths")))
def sp_Book_init (c : Cn) : Sp := fun vs H Q E => vs.length = 1 ∧ ∃ (b dx : Addr), vs = [.ref b] ∧ H b = some (.ins c.cBook dx []) ∧
  ∀ (H' : Hp) (M : Addr → Prop), Keep (fun x => x = b) H H' → BookAt c H' b M [([], [])] [0] → (∀ x, M x → H x = none) → Q .non H'
theorem p_Book_init {c : Cn} {mg : Str → Option Value} (T : Txt c mg) {vs : List V} {H : Hp} {Q : VK} {E : XK} (h : sp_Book_init c vs H Q E) : t_Book_init c { nx := fun _ H' => Q .non H', rt := Q } (start N_Book_init vs) H := by
  obtain ⟨_, b, dx, rfl, hb, k⟩ := h
  unfold t_Book_init
  repeat kaf_suf
  intro p1 hp1
  repeat kaf_suf
  intro p2 hp2
  repeat kaf_suf
  intro p3 hp3
  repeat kaf_suf
  intro mv hmv
  repeat kaf_suf
  refine r_ksfld (by kaf_pre) (Txt.cl_Book T) (Txt.na_Book_moves T) (by decide) ?_
  repeat kaf_suf
  intro nm hnm
  repeat kaf_suf
  intro p4 hp4
  repeat kaf_suf
  intro p5 hp5
  repeat kaf_suf
  intro t ht
  repeat kaf_suf
  have w0 : nm ≠ mv := ne_new hnm (show _ = some (HO.lst [V.ref p3]) by kaf_pre)
  have w1 : b ≠ nm := ne_old hnm upd_same
  have w2 : mv ≠ b := ne_new hmv (by kaf_pre)
  have w3 : p3 ≠ mv := ne_old hmv upd_same
  have hnm0 : H nm = none := by
    have h0 := none_of_upd hnm
    exact none_of_upd (none_of_upd (none_of_upd (none_of_upd h0)))
  have hmv0 : H mv = none := none_of_upd (none_of_upd (none_of_upd hmv))
  refine ⟨gkey ([], []), t, rfl, by kaf_pre, GAt.nk (g := ([], [])) ⟨p4, p5, by kaf_pre, by kaf_pre, by kaf_pre⟩, gkey_depth _, ?_⟩
  repeat kaf_suf
  refine r_ksfld (by kaf_pre) (Txt.cl_Book T) (Txt.na_Book_numbers T) (by rw [putF_0]; simp) ?_
  repeat kaf_suf
  intro dp hdp
  repeat kaf_suf
  refine r_ksfld (by kaf_pre) (Txt.cl_Book T) (Txt.na_Book_depths T) (by rw [putF_0, putF_1]; simp) ?_
  repeat kaf_suf
  have hdp0 : H dp = none := by
    have := hdp
    repeat (first | exact this | replace this := none_of_upd this)
  have w4 : dp ≠ mv := ne_new hdp (show _ = some (HO.lst [V.ref p3]) by kaf_pre)
  have w5 : dp ≠ nm := ne_new hdp (show _ = some (NdO c.P c.w nm [(gkey ([], []), t, V.int 0)]) by kaf_pre)
  have w6 : dp ≠ b := ne_new hdp upd_same
  have x3 : p3 ≠ nm := ne_old hnm (by kaf_pre)
  have x2 : p2 ≠ nm := ne_old hnm (by kaf_pre)
  have x1 : p1 ≠ nm := ne_old hnm (by kaf_pre)
  have y3 : p3 ≠ b := ne_new hp3 (by kaf_pre)
  have y2 : p2 ≠ b := ne_new hp2 (by kaf_pre)
  have y1 : p1 ≠ b := ne_new hp1 (by kaf_pre)
  have z4 : p4 ≠ b := ne_new hp4 (by kaf_pre)
  have z5 : p5 ≠ b := ne_new hp5 (by kaf_pre)
  have z6 : t ≠ b := ne_new ht (by kaf_pre)
  have q4 : p4 ≠ nm := ne_new hp4 upd_same
  have q5 : p5 ≠ nm := ne_new hp5 (by kaf_pre)
  have q6 : t ≠ nm := ne_new ht (by kaf_pre)
  refine absQ (S := fun H' => Keep (fun x => x = b) H H' ∧ H' b = some (.ins c.cBook dx (bookFs mv nm dp)) ∧ H' mv = some (.lst [.ref p3]) ∧ H' p3 = some (.tup [.ref p1, .ref p2]) ∧ H' p1 = some (.tup []) ∧ H' p2 = some (.tup []) ∧
    H' nm = some (NdO c.P c.w nm [(gkey ([], []), t, V.int 0)]) ∧ H' t = some (.tup [.ref p4, .ref p5]) ∧ H' p4 = some (.tup []) ∧ H' p5 = some (.tup []) ∧ H' dp = some (.lst [.int 0])) ⟨?_, ?_, ?_, ?_, ?_, ?_, ?_, ?_, ?_, ?_, ?_⟩ fun HX ⟨f0, f1, f2, f3, f4, f5, f6, f7, f8, f9, f10⟩ => ?_
  · repeat (first | exact Keep.refl | refine' Keep.set ?_ rfl | refine' Keep.new ?_ (by assumption) | refine' Keep.setN ?_ (by assumption))
  · rw [putF_0, putF_1, putF_2]; exact upd_same
  · kaf_pre
  · kaf_pre
  · kaf_pre
  · kaf_pre
  · kaf_pre
  · kaf_pre
  · kaf_pre
  · kaf_pre
  · kaf_pre
  refine k HX (fun x => x = mv ∨ x = nm ∨ x = dp) f0 ⟨GOk.one, DOk.one, dx, mv, nm, dp, [p3], [(gkey ([], []), t, V.int 0)], f1, f2, .cons ⟨p1, p2, f3, f4, f5⟩ .nil, ⟨f6, fun x hx => ?_⟩, rfl, fun g => ?_, f10, .inl rfl, .inr (.inl rfl), .inr (.inr rfl), w4.symm, fun _ h => h⟩ fun x hx => ?_
  · cases List.mem_singleton.mp hx
    exact ⟨GAt.nk (g := ([], [])) ⟨p4, p5, f7, f8, f9⟩, gkey_depth _⟩
  · by_cases e : g = ([], [])
    · subst e; rfl
    · have e' : ¬ gkey ([], []) = gkey g := fun z => e (gkey_inj z).symm
      rw [if_neg (by simpa using e)]
      simp [nval, e']
  · rcases hx with rfl | rfl | rfl <;> assumption
theorem mak_Book {c : Cn} {mg : Str → Option Value} {base : Heap} (T : Txt c mg) : Mak c.P c.w c.K mg base CX0 1 "Book" c.cBook (sp_Book_init c) := by
  obtain ⟨f, fd, F, g, b⟩ := T.F_Book_init
  exact ⟨f, fd, ["self"], g, F.ok (k := 0) (N := N_Book_init) sc_Book_init (fun vs H Q E h => h.1) (fun cdv A outer s H vs Q E hr h => ⟨t_Book_init c, by
  exact (pss_cons (ps_fld (pv 0) (pe_lst (pa_cons (pe_tup (pa_cons (pe_tup pa_nil) (pa_cons (pe_tup pa_nil) pa_nil))) pa_nil)) rfl)
  (pss_cons (ps_fld (pv 0) (pe_disp1 (hu64 hr) (pe_tup (pa_cons (pe_tup pa_nil) (pa_cons (pe_tup pa_nil) pa_nil))) pe_int) rfl)
  (pss_one (ps_fld (pv 0) (pe_lst (pa_cons pe_int pa_nil)) rfl)))), p_Book_init T h⟩), T.g_Book, b⟩

abbrev N_Book_many : List Str := ["self"]
theorem sc_Book_many : FnScope N_Book_many ["self"] (defScope s_Book_many) := ⟨rfl, rfl, rfl, by decide +kernel, rfl, by decide +kernel, by decide +kernel⟩
def t_Book_many (c : Cn) : TS :=
  (tRet (tCB (kLen c.K) (tCons (tFld c.K (tVar 0) "moves") tNil)))
def sp_Book_many (c : Cn) : Sp := fun vs H Q E => vs.length = 1 ∧ ∃ (b : Addr) (M : Addr → Prop) (gs : List Gm) (ds : List Int), vs = [.ref b] ∧ BookAt c H b M gs ds ∧ Q (.int gs.length) H
theorem p_Book_many {c : Cn} {mg : Str → Option Value} (T : Txt c mg) {vs : List V} {H : Hp} {Q : VK} {E : XK} (h : sp_Book_many c vs H Q E) : t_Book_many c { nx := fun _ H' => Q .non H', rt := Q } (start N_Book_many vs) H := by
  obtain ⟨_, b, M, gs, ds, rfl, B, k⟩ := h
  obtain ⟨dx, mv, nm, dp, ts, xs, h1, h2, h3, h4, h5, h6, h7, m1, m2, m3, ne, h8⟩ := B.ex
  unfold t_Book_many
  repeat kaf_suf
  rw [List.length_map, Paired.length h3]
  exact k
theorem met_Book_many {c : Cn} {mg : Str → Option Value} {base : Heap} (T : Txt c mg) : Met c.P c.w c.K mg base CX0 1 c.cBook "many" (sp_Book_many c) := by
  obtain ⟨f, fd, F, g, b⟩ := T.F_Book_many
  exact ⟨f, fd, ["self"], T.cl_Book, g, F.ok (k := 0) (N := N_Book_many) sc_Book_many (fun vs H Q E h => h.1) (fun cdv A outer s H vs Q E hr h => ⟨t_Book_many c, by
  exact (pss_one (ps_ret (pe_callB k_len (by rfl) T.n_len (by decide +kernel) (pa_cons (pe_fld (pv 0) rfl) pa_nil)))), p_Book_many T h⟩), b⟩

/-! the moves as they are told -/
abbrev N_Book_lefts : List Str := ["self", "g"]
theorem sc_Book_lefts : FnScope N_Book_lefts ["self", "g"] (defScope s_Book_lefts) := ⟨rfl, rfl, rfl, by decide +kernel, rfl, by decide +kernel, by decide +kernel⟩
def t_Book_lefts (c : Cn) (E : XK) : TS :=
  (tSeq (tDrop (tMeth c.cBook "need" (sx_Book_need c) [] E (tVar 0) (tCons (tVar 1) tNil)))
  (tRet (tCB (kList c.K) (tCons (tOp (bIx c.P c.w c.K) (tOp (bIx c.P c.w c.K) (tFld c.K (tVar 0) "moves") (tVar 1)) (tC (.int 0))) tNil))))
def sp_Book_lefts (c : Cn) : Sp := fun vs H Q E => vs.length = 2 ∧ ∃ (b : Addr) (M : Addr → Prop) (gs : List Gm) (ds : List Int) (g : Nat) (gm : Gm), vs = [.ref b, .int g] ∧ BookAt c H b M gs ds ∧ gs[g]? = some gm ∧ ∀ p, H p = none → Q (.ref p) (upd H p (.lst (gm.1.map V.int)))
theorem p_Book_lefts {c : Cn} {mg : Str → Option Value} (T : Txt c mg) {vs : List V} {H : Hp} {Q : VK} {E : XK} (h : sp_Book_lefts c vs H Q E) : t_Book_lefts c E { nx := fun _ H' => Q .non H', rt := Q } (start N_Book_lefts vs) H := by
  obtain ⟨_, b, M, gs, ds, g, gm, rfl, B, hg, k⟩ := h
  obtain ⟨dx, mv, nm, dp, ts, xs, h1, h2, h3, h4, h5, h6, h7, m1, m2, m3, ne, h8⟩ := B.ex
  have hl := (List.getElem?_eq_some_iff.mp hg).1
  unfold t_Book_lefts
  repeat kaf_suf
  refine ⟨rfl, .inl ⟨rfl, b, M, gs, ds, g, rfl, B, by omega, by omega, ?_⟩⟩
  obtain ⟨t, ht, ka, kb, t1, t2, t3⟩ := paired_get h3 hg
  have hx : atI (ts.map V.ref) (g : Int) = some (V.ref t) := atI_get (n := g) (by rw [List.getElem?_map, ht]; rfl) rfl
  repeat kaf_suf
  exact k
def sy_Book_lefts (c : Cn) : Sp := fun vs H Q E => vs.length = 2 ∧ ∃ (b : Addr) (M : Addr → Prop) (gs : List Gm) (ds : List Int) (v : V), vs = [.ref b, v] ∧ BookAt c H b M gs ds ∧ BadV H gs.length v ∧ E (.ref c.cNoGame) none H
theorem q_Book_lefts {c : Cn} {mg : Str → Option Value} (T : Txt c mg) {vs : List V} {H : Hp} {Q : VK} {E : XK} (h : sy_Book_lefts c vs H Q E) : t_Book_lefts c E { nx := fun _ H' => Q .non H', rt := Q } (start N_Book_lefts vs) H := by
  obtain ⟨_, b, M, gs, ds, v, rfl, B, bd, k⟩ := h
  obtain ⟨dx, mv, nm, dp, hb⟩ := B.ins_
  unfold t_Book_lefts
  repeat kaf_suf
  exact ⟨rfl, .inr ⟨rfl, b, M, gs, ds, v, rfl, B, bd, k⟩⟩
def sx_Book_lefts (c : Cn) : Sp := fun vs H Q E => vs.length = 2 ∧ (sp_Book_lefts c vs H Q E ∨ sy_Book_lefts c vs H Q E)
theorem metx_Book_lefts {c : Cn} {mg : Str → Option Value} {base : Heap} (T : Txt c mg) : Met c.P c.w c.K mg base (L2.CX c.P c.w) 2 c.cBook "lefts" (sx_Book_lefts c) := by
  obtain ⟨f, fd, F, g, b⟩ := T.F_Book_lefts
  exact ⟨f, fd, ["self", "g"], T.cl_Book, g, F.okX (k := 1) (N := N_Book_lefts) sc_Book_lefts (fun vs H Q E h => h.1) (fun cdv A outer s H vs Q E hr h => ⟨t_Book_lefts c E, by
  exact (pss_cons (ps_expr (e_meth (metx_Book_need T) hr (by decide) (passes_call (takes_of rfl rfl rfl rfl) fun _ _ _ _ z => z) (pv 0) (pa_cons (pv 1) pa_nil)))
  (pss_one (ps_ret (pe_callTy (k_list rfl) (by rfl) T.n_list (by decide +kernel) (pa_cons (pe_ix (x_ix (hu64 hr)) (pe_ix (x_ix (hu64 hr)) (pe_fld (pv 0) rfl) (pv 1) (fun _ _ => rfl)) pe_int (fun _ _ => rfl)) pa_nil))))), h.2.elim (p_Book_lefts T) (q_Book_lefts T)⟩), b⟩
theorem met_Book_lefts {c : Cn} {mg : Str → Option Value} {base : Heap} (T : Txt c mg) : Met c.P c.w c.K mg base (L2.CX c.P c.w) 2 c.cBook "lefts" (sp_Book_lefts c) := by
  obtain ⟨f, fd, ps, cl, m, F, b⟩ := (metx_Book_lefts T).ex
  exact ⟨⟨f, fd, ps, cl, m, F.imp fun vs H Q E h => ⟨h.1, .inl h⟩, b⟩⟩
abbrev N_Book_rights : List Str := ["self", "g"]
theorem sc_Book_rights : FnScope N_Book_rights ["self", "g"] (defScope s_Book_rights) := ⟨rfl, rfl, rfl, by decide +kernel, rfl, by decide +kernel, by decide +kernel⟩
def t_Book_rights (c : Cn) (E : XK) : TS :=
  (tSeq (tDrop (tMeth c.cBook "need" (sx_Book_need c) [] E (tVar 0) (tCons (tVar 1) tNil)))
  (tRet (tCB (kList c.K) (tCons (tOp (bIx c.P c.w c.K) (tOp (bIx c.P c.w c.K) (tFld c.K (tVar 0) "moves") (tVar 1)) (tC (.int 1))) tNil))))
def sp_Book_rights (c : Cn) : Sp := fun vs H Q E => vs.length = 2 ∧ ∃ (b : Addr) (M : Addr → Prop) (gs : List Gm) (ds : List Int) (g : Nat) (gm : Gm), vs = [.ref b, .int g] ∧ BookAt c H b M gs ds ∧ gs[g]? = some gm ∧ ∀ p, H p = none → Q (.ref p) (upd H p (.lst (gm.2.map V.int)))
theorem p_Book_rights {c : Cn} {mg : Str → Option Value} (T : Txt c mg) {vs : List V} {H : Hp} {Q : VK} {E : XK} (h : sp_Book_rights c vs H Q E) : t_Book_rights c E { nx := fun _ H' => Q .non H', rt := Q } (start N_Book_rights vs) H := by
  obtain ⟨_, b, M, gs, ds, g, gm, rfl, B, hg, k⟩ := h
  obtain ⟨dx, mv, nm, dp, ts, xs, h1, h2, h3, h4, h5, h6, h7, m1, m2, m3, ne, h8⟩ := B.ex
  have hl := (List.getElem?_eq_some_iff.mp hg).1
  unfold t_Book_rights
  repeat kaf_suf
  refine ⟨rfl, .inl ⟨rfl, b, M, gs, ds, g, rfl, B, by omega, by omega, ?_⟩⟩
  obtain ⟨t, ht, ka, kb, t1, t2, t3⟩ := paired_get h3 hg
  have hx : atI (ts.map V.ref) (g : Int) = some (V.ref t) := atI_get (n := g) (by rw [List.getElem?_map, ht]; rfl) rfl
  repeat kaf_suf
  exact k
def sy_Book_rights (c : Cn) : Sp := fun vs H Q E => vs.length = 2 ∧ ∃ (b : Addr) (M : Addr → Prop) (gs : List Gm) (ds : List Int) (v : V), vs = [.ref b, v] ∧ BookAt c H b M gs ds ∧ BadV H gs.length v ∧ E (.ref c.cNoGame) none H
theorem q_Book_rights {c : Cn} {mg : Str → Option Value} (T : Txt c mg) {vs : List V} {H : Hp} {Q : VK} {E : XK} (h : sy_Book_rights c vs H Q E) : t_Book_rights c E { nx := fun _ H' => Q .non H', rt := Q } (start N_Book_rights vs) H := by
  obtain ⟨_, b, M, gs, ds, v, rfl, B, bd, k⟩ := h
  obtain ⟨dx, mv, nm, dp, hb⟩ := B.ins_
  unfold t_Book_rights
  repeat kaf_suf
  exact ⟨rfl, .inr ⟨rfl, b, M, gs, ds, v, rfl, B, bd, k⟩⟩
def sx_Book_rights (c : Cn) : Sp := fun vs H Q E => vs.length = 2 ∧ (sp_Book_rights c vs H Q E ∨ sy_Book_rights c vs H Q E)
theorem metx_Book_rights {c : Cn} {mg : Str → Option Value} {base : Heap} (T : Txt c mg) : Met c.P c.w c.K mg base (L2.CX c.P c.w) 2 c.cBook "rights" (sx_Book_rights c) := by
  obtain ⟨f, fd, F, g, b⟩ := T.F_Book_rights
  exact ⟨f, fd, ["self", "g"], T.cl_Book, g, F.okX (k := 1) (N := N_Book_rights) sc_Book_rights (fun vs H Q E h => h.1) (fun cdv A outer s H vs Q E hr h => ⟨t_Book_rights c E, by
  exact (pss_cons (ps_expr (e_meth (metx_Book_need T) hr (by decide) (passes_call (takes_of rfl rfl rfl rfl) fun _ _ _ _ z => z) (pv 0) (pa_cons (pv 1) pa_nil)))
  (pss_one (ps_ret (pe_callTy (k_list rfl) (by rfl) T.n_list (by decide +kernel) (pa_cons (pe_ix (x_ix (hu64 hr)) (pe_ix (x_ix (hu64 hr)) (pe_fld (pv 0) rfl) (pv 1) (fun _ _ => rfl)) pe_int (fun _ _ => rfl)) pa_nil))))), h.2.elim (p_Book_rights T) (q_Book_rights T)⟩), b⟩
theorem met_Book_rights {c : Cn} {mg : Str → Option Value} {base : Heap} (T : Txt c mg) : Met c.P c.w c.K mg base (L2.CX c.P c.w) 2 c.cBook "rights" (sp_Book_rights c) := by
  obtain ⟨f, fd, ps, cl, m, F, b⟩ := (metx_Book_rights T).ex
  exact ⟨⟨f, fd, ps, cl, m, F.imp fun vs H Q E h => ⟨h.1, .inl h⟩, b⟩⟩

/-! the depth as it is told -/
abbrev N_Book_depth : List Str := ["self", "g"]
theorem sc_Book_depth : FnScope N_Book_depth ["self", "g"] (defScope s_Book_depth) := ⟨rfl, rfl, rfl, by decide +kernel, rfl, by decide +kernel, by decide +kernel⟩
def t_Book_depth (c : Cn) (E : XK) : TS :=
  (tSeq (tDrop (tMeth c.cBook "need" (sx_Book_need c) [] E (tVar 0) (tCons (tVar 1) tNil)))
  (tRet (tOp (bIx c.P c.w c.K) (tFld c.K (tVar 0) "depths") (tVar 1))))
def sp_Book_depth (c : Cn) : Sp := fun vs H Q E => vs.length = 2 ∧ ∃ (b : Addr) (M : Addr → Prop) (gs : List Gm) (ds : List Int) (g : Nat) (e : Int), vs = [.ref b, .int g] ∧ BookAt c H b M gs ds ∧ ds[g]? = some e ∧ Q (.int e) H
theorem p_Book_depth {c : Cn} {mg : Str → Option Value} (T : Txt c mg) {vs : List V} {H : Hp} {Q : VK} {E : XK} (h : sp_Book_depth c vs H Q E) : t_Book_depth c E { nx := fun _ H' => Q .non H', rt := Q } (start N_Book_depth vs) H := by
  obtain ⟨_, b, M, gs, ds, g, e, rfl, B, hg, k⟩ := h
  obtain ⟨dx, mv, nm, dp, ts, xs, h1, h2, h3, h4, h5, h6, h7, m1, m2, m3, ne, h8⟩ := B.ex
  have hl := (List.getElem?_eq_some_iff.mp hg).1
  have hn := B.dok.len
  unfold t_Book_depth
  repeat kaf_suf
  refine ⟨rfl, .inl ⟨rfl, b, M, gs, ds, g, rfl, B, by omega, by omega, ?_⟩⟩
  have hx : atI (ds.map V.int) (g : Int) = some (V.int e) := atI_get (n := g) (by rw [List.getElem?_map, hg]; rfl) rfl
  repeat kaf_suf
  exact k
def sy_Book_depth (c : Cn) : Sp := fun vs H Q E => vs.length = 2 ∧ ∃ (b : Addr) (M : Addr → Prop) (gs : List Gm) (ds : List Int) (v : V), vs = [.ref b, v] ∧ BookAt c H b M gs ds ∧ BadV H gs.length v ∧ E (.ref c.cNoGame) none H
theorem q_Book_depth {c : Cn} {mg : Str → Option Value} (T : Txt c mg) {vs : List V} {H : Hp} {Q : VK} {E : XK} (h : sy_Book_depth c vs H Q E) : t_Book_depth c E { nx := fun _ H' => Q .non H', rt := Q } (start N_Book_depth vs) H := by
  obtain ⟨_, b, M, gs, ds, v, rfl, B, bd, k⟩ := h
  obtain ⟨dx, mv, nm, dp, hb⟩ := B.ins_
  unfold t_Book_depth
  repeat kaf_suf
  exact ⟨rfl, .inr ⟨rfl, b, M, gs, ds, v, rfl, B, bd, k⟩⟩
def sx_Book_depth (c : Cn) : Sp := fun vs H Q E => vs.length = 2 ∧ (sp_Book_depth c vs H Q E ∨ sy_Book_depth c vs H Q E)
theorem metx_Book_depth {c : Cn} {mg : Str → Option Value} {base : Heap} (T : Txt c mg) : Met c.P c.w c.K mg base (L2.CX c.P c.w) 2 c.cBook "depth" (sx_Book_depth c) := by
  obtain ⟨f, fd, F, g, b⟩ := T.F_Book_depth
  exact ⟨f, fd, ["self", "g"], T.cl_Book, g, F.okX (k := 1) (N := N_Book_depth) sc_Book_depth (fun vs H Q E h => h.1) (fun cdv A outer s H vs Q E hr h => ⟨t_Book_depth c E, by
  exact (pss_cons (ps_expr (e_meth (metx_Book_need T) hr (by decide) (passes_call (takes_of rfl rfl rfl rfl) fun _ _ _ _ z => z) (pv 0) (pa_cons (pv 1) pa_nil)))
  (pss_one (ps_ret (pe_ix (x_ix (hu64 hr)) (pe_fld (pv 0) rfl) (pv 1) (fun _ _ => rfl))))), h.2.elim (p_Book_depth T) (q_Book_depth T)⟩), b⟩
theorem met_Book_depth {c : Cn} {mg : Str → Option Value} {base : Heap} (T : Txt c mg) : Met c.P c.w c.K mg base (L2.CX c.P c.w) 2 c.cBook "depth" (sp_Book_depth c) := by
  obtain ⟨f, fd, ps, cl, m, F, b⟩ := (metx_Book_depth T).ex
  exact ⟨⟨f, fd, ps, cl, m, F.imp fun vs H Q E h => ⟨h.1, .inl h⟩, b⟩⟩
theorem DOk.pos {gs : List Gm} {ds : List Int} (o : GOk gs) (d : DOk gs ds) : ∀ (n i : Nat), i < n → ∀ e, ds[i]? = some e → 0 ≤ e
  | 0, _, h, _, _ => by omega
  | n + 1, i, h, e, he => by
    have hi := (List.getElem?_eq_some_iff.mp he).1
    obtain ⟨g, hg⟩ : ∃ g, gs[i]? = some g := ⟨_, List.getElem?_eq_getElem (by rw [← d.len]; exact hi)⟩
    obtain ⟨d1, _, d3⟩ := d.at_ i _ e hg he
    by_cases z : g.1 ++ g.2 = []
    · have := d1 z; omega
    · obtain ⟨x, hx, ex⟩ := d3 z
      obtain ⟨m, hm, rfl⟩ := List.mem_map.mp hx
      obtain ⟨l0, l1⟩ := o.low i _ hg m hm
      have : 0 ≤ ds[m.toNat]?.getD 0 := by
        cases q : ds[m.toNat]? with
        | none => simp
        | some v => exact DOk.pos o d n m.toNat (by omega) v q
      omega

/-! plain helpers -/
theorem any_eq {α : Type} {f g : α → Bool} : ∀ {l : List α}, (∀ m ∈ l, f m = g m) → l.any f = l.any g
  | [], _ => rfl
  | x :: r, h => by rw [List.any_cons, List.any_cons, h x List.mem_cons_self, any_eq fun m hm => h m (List.mem_cons_of_mem _ hm)]
def mvs (gs : List Gm) (g : Nat) (s : Bool) : List Int := match gs[g]? with
  | some x => if s then x.1 else x.2
  | none => []
theorem mvs_low {gs : List Gm} (o : GOk gs) {g : Nat} {s : Bool} {m : Int} (h : m ∈ mvs gs g s) : 0 ≤ m ∧ m < g ∧ g < gs.length := by
  unfold mvs at h
  cases e : gs[g]? with
  | none => rw [e] at h; simp at h
  | some x =>
    rw [e] at h
    have hl := (List.getElem?_eq_some_iff.mp e).1
    have := o.low g x e m (by
      cases s
      · simp at h; simp [h]
      · simp at h; simp [h])
    omega
theorem mvs_more {gs f : List Gm} {g : Nat} {s : Bool} (h : g < gs.length) : mvs (gs ++ f) g s = mvs gs g s := by
  unfold mvs; rw [List.getElem?_append_left h]
theorem nodup_le {α : Type} [DecidableEq α] : ∀ (l m : List α), l.Nodup → (∀ x ∈ l, x ∈ m) → l.length ≤ m.length
  | [], _, _, _ => Nat.zero_le _
  | x :: l, m, nd, h => by
    have nd' := List.nodup_cons.mp nd
    have hx := h x List.mem_cons_self
    have := nodup_le l (m.erase x) nd'.2 fun y hy => by
      have hm := h y (List.mem_cons_of_mem _ hy)
      exact (List.mem_erase_of_ne (fun (e : y = x) => nd'.1 (by rw [← e]; exact hy))).mpr hm
    rw [List.length_erase_of_mem hx] at this
    have := List.length_pos_of_mem hx
    simp only [List.length_cons]; omega
theorem nval_nput {xs : List NX} {k : NestedKey} {a : Addr} {v : V} : nval (nput xs k a v) k = some v := by
  unfold nput
  split
  · rename_i h
    clear a
    have go : ∀ xs : List NX, (nval xs k).isSome = true → nval (xs.map fun x => if x.1 = k then (x.1, x.2.1, v) else x) k = some v := fun xs => by
      unfold nval
      induction xs with
      | nil => intro h; simp at h
      | cons p q ih =>
        intro h
        rw [List.map_cons]
        by_cases e : p.1 = k
        · rw [if_pos e, List.find?_cons_of_pos (by simp [e])]; rfl
        · rw [if_neg e, List.find?_cons_of_neg (by simp [e])]
          rw [List.find?_cons_of_neg (by simp [e])] at h
          exact ih h
    exact go xs h
  · rename_i h
    rw [nval_snoc]
    have : nval xs k = none := by
      cases e : nval xs k with
      | none => rfl
      | some v => rw [e] at h; simp at h
    rw [this]; simp
theorem nval_mem {xs : List NX} {k : NestedKey} {v : V} (h : nval xs k = some v) : ∃ x ∈ xs, x.1 = k ∧ x.2.2 = v := by
  unfold nval at h
  obtain ⟨x, hx, rfl⟩ := Option.map_eq_some_iff.mp h
  exact ⟨x, List.mem_of_find?_eq_some hx, by simpa using List.find?_some hx, rfl⟩
theorem nval_none {xs : List NX} {k : NestedKey} (h : nval xs k = none) : ∀ x ∈ xs, x.1 ≠ k := fun x hx e => by
  unfold nval at h
  rw [Option.map_eq_none_iff] at h
  have := List.find?_eq_none.mp h x hx
  simp [e] at this
theorem any_filter {α : Type} [DecidableEq α] {p : α → Bool} : ∀ (l : List α), l.any p = !decide (l.filter p = [])
  | [] => by simp
  | x :: r => by
    by_cases h : p x = true
    · simp [h]
    · simp only [Bool.not_eq_true] at h
      rw [List.any_cons, h, Bool.false_or, any_filter r]
      simp [List.filter_cons, h]
theorem BookAt.keepX {c : Cn} {H H' : Hp} {b : Addr} {M N : Addr → Prop} {gs : List Gm} {ds : List Int} (B : BookAt c H b M gs ds) (k : Keep N H H') (n : ∀ x, N x → ∃ φ, H x = some (.ext φ)) (d : ∀ x, M x → ¬ N x) : BookAt c H' b M gs ds := by
  obtain ⟨dx, mv, nm, dp, ts, xs, h1, h2, h3, h4, h5, h6, h7, m1, m2, m3, ne, h8⟩ := B.ex
  have kt : ∀ q ys, H q = some (.tup ys) → H' q = some (.tup ys) := fun q ys e => k _ _ (fun z => by obtain ⟨l, e'⟩ := n q z; rw [e] at e'; cases e') e
  refine ⟨B.ok, B.dok, dx, mv, nm, dp, ts, xs, k _ _ (fun z => ?_) h1, k _ _ (d _ m1) h2, paired_keep h3 fun t g q => q.keep kt, ⟨k _ _ (d _ m2) h4.here, fun x hx => ⟨NkV.keeps kt _ _ (h4.keys x hx).1, (h4.keys x hx).2⟩⟩, h5, h6, k _ _ (d _ m3) h7, m1, m2, m3, ne, h8⟩
  obtain ⟨l, e'⟩ := n b z; rw [h1] at e'; cases e'
theorem v_setN' {P : Program} {w : World} {H : Hp} {Q : Hp → Prop} {p a : Addr} {k : NestedKey} {xs : List NX} {v : V} (N : NdAt P w H a xs) (kp : NkV H k (.ref p)) (d : k.depth ≤ 8) (l : xs.length < sizeLine) (q : Q (upd H a (NdO P w a (nput xs k p v)))) : bSet P w (.ref a) (.ref p) v H Q := v_setN N kp d l q
theorem BookAt.keepY {c : Cn} {H H' : Hp} {b : Addr} {M N : Addr → Prop} {gs : List Gm} {ds : List Int} (B : BookAt c H b M gs ds) (k : Keep N H H') (n : ∀ x, N x → (∀ l, H x ≠ some (.tup l)) ∧ ∀ C d l, H x ≠ some (.ins C d l)) (d : ∀ x, M x → ¬ N x) : BookAt c H' b M gs ds := by
  obtain ⟨dx, mv, nm, dp, ts, xs, h1, h2, h3, h4, h5, h6, h7, m1, m2, m3, ne, h8⟩ := B.ex
  have kt : ∀ q ys, H q = some (.tup ys) → H' q = some (.tup ys) := fun q ys e => k _ _ (fun z => (n q z).1 _ e) e
  exact ⟨B.ok, B.dok, dx, mv, nm, dp, ts, xs, k _ _ (fun z => (n b z).2 _ _ _ h1) h1, k _ _ (d _ m1) h2, paired_keep h3 fun t g q => q.keep kt, ⟨k _ _ (d _ m2) h4.here, fun x hx => ⟨NkV.keeps kt _ _ (h4.keys x hx).1, (h4.keys x hx).2⟩⟩, h5, h6, k _ _ (d _ m3) h7, m1, m2, m3, ne, h8⟩
abbrev KX := Key × V
theorem valV_mem {kvs : List KX} {k : Key} {v : V} (h : valV kvs k = some v) : ∃ x ∈ kvs, x.1 = k ∧ x.2 = v := by
  unfold valV at h
  obtain ⟨x, hx, rfl⟩ := Option.map_eq_some_iff.mp h
  exact ⟨x, List.mem_of_find?_eq_some hx, by simpa using List.find?_some hx, rfl⟩
theorem valV_none {kvs : List KX} {k : Key} (h : valV kvs k = none) : ∀ x ∈ kvs, x.1 ≠ k := fun x hx e => by
  unfold valV at h
  rw [Option.map_eq_none_iff] at h
  have := List.find?_eq_none.mp h x hx
  simp [e] at this
theorem putK_new {kvs : List KX} {k : Key} {v : V} (h : valV kvs k = none) : putK kvs k v = kvs ++ [(k, v)] := by
  unfold putK
  rw [if_neg]
  intro z
  obtain ⟨x, hx, e⟩ := List.any_eq_true.mp z
  exact valV_none h x hx (by simpa using e)
theorem putK_val {kvs : List KX} {k : Key} {v : V} : valV (putK kvs k v) k = some v := by
  unfold putK
  split
  · rename_i h
    induction kvs with
    | nil => simp at h
    | cons p q ih =>
      rw [List.map_cons]
      by_cases e : p.1 = k
      · rw [if_pos e]; exact valV_pos e
      · rw [if_neg e, valV_neg e]
        exact ih (by simpa [e] using h)
  · rename_i h
    unfold valV
    rw [List.find?_append]
    have : kvs.find? (fun kv => decide (kv.1 = k)) = none := List.find?_eq_none.mpr fun x hx z => h (List.any_eq_true.mpr ⟨x, hx, z⟩)
    rw [this]; simp
theorem putK_len {kvs : List KX} {k : Key} {v : V} : kvs.length ≤ (putK kvs k v).length := by
  unfold putK; split <;> simp
theorem addG_grow {gs : List Gm} {k : Gm} : ∃ f, addG gs k = gs ++ f ∧ f.length ≤ 1 ∧ (k ∈ gs → f = []) := by
  unfold addG; split
  · exact ⟨[], by simp, by simp, fun _ => rfl⟩
  · rename_i h
    exact ⟨[k], rfl, by simp, fun z => absurd z h⟩
theorem DOk.move {gs : List Gm} {ds : List Int} (o : GOk gs) (d : DOk gs ds) {g : Nat} {gm : Gm} {dg : Int} (hg : gs[g]? = some gm) (hd : ds[g]? = some dg) {m : Int} (hm : m ∈ gm.1 ++ gm.2) : ∃ dm, ds[m.toNat]? = some dm ∧ dm + 1 ≤ dg := by
  have low := o.low g gm hg m hm
  have lg := (List.getElem?_eq_some_iff.mp hg).1
  have dl := d.len
  obtain ⟨v, hv⟩ : ∃ v, ds[m.toNat]? = some v := ⟨_, List.getElem?_eq_getElem (by omega)⟩
  refine ⟨v, hv, (d.at_ g gm dg hg hd).2.1 v ?_⟩
  unfold dps
  exact List.mem_map.mpr ⟨m, hm, by rw [hv]; rfl⟩
theorem DOk.le {gs : List Gm} {ds : List Int} (o : GOk gs) (d : DOk gs ds) : ∀ (n g : Nat), g < n → ∀ dg, ds[g]? = some dg → dg ≤ g
  | 0, _, h, _, _ => by omega
  | n + 1, g, h, dg, hd => by
    have hl := (List.getElem?_eq_some_iff.mp hd).1
    obtain ⟨gm, hg⟩ : ∃ x, gs[g]? = some x := ⟨_, List.getElem?_eq_getElem (by have := d.len; omega)⟩
    obtain ⟨p1, p2, p3⟩ := d.at_ g gm dg hg hd
    by_cases z : gm.1 ++ gm.2 = []
    · have := p1 z; omega
    · obtain ⟨u, hu, eu⟩ := p3 z
      obtain ⟨m, hm, em⟩ := List.mem_map.mp hu
      have low := o.low g gm hg m hm
      obtain ⟨v, hv⟩ : ∃ v, ds[m.toNat]? = some v := ⟨_, List.getElem?_eq_getElem (by have := d.len; omega)⟩
      have := DOk.le o d n m.toNat (by omega) v hv
      rw [hv] at em
      have em' : v = u := em
      omega
theorem mvs_dep {gs : List Gm} {ds : List Int} (o : GOk gs) (d : DOk gs ds) {g : Nat} {s : Bool} {m : Int} (h : m ∈ mvs gs g s) {dg : Int} (hd : ds[g]? = some dg) : ∃ dm, ds[m.toNat]? = some dm ∧ dm + 1 ≤ dg := by
  obtain ⟨m0, m1, m2⟩ := mvs_low o h
  have e := List.getElem?_eq_getElem m2
  refine d.move o e hd ?_
  unfold mvs at h; rw [e] at h
  cases s
  · exact List.mem_append_right _ (by simpa using h)
  · exact List.mem_append_left _ (by simpa using h)

/-! a fraction in lowest terms -/
structure LowOf (top bottom : Int) (q : Fr) : Prop where
  pos : 0 < q.2
  dv : ∃ g, 0 < g ∧ top = g * q.1 ∧ bottom = g * q.2
  cop : ∀ d, d ∣ q.1 → d ∣ q.2 → d ∣ 1
theorem LowOf.val {top bottom : Int} {q : Fr} (h : LowOf top bottom q) : q.1 * bottom = top * q.2 := by
  obtain ⟨g, _, e1, e2⟩ := h.dv
  rw [e1, e2, Int.mul_left_comm, Int.mul_assoc]
theorem LowOf.w1 {top bottom : Int} {q : Fr} (h : LowOf top bottom q) : q.1.natAbs ≤ top.natAbs := by
  obtain ⟨g, g0, e1, e2⟩ := h.dv
  rw [e1, Int.natAbs_mul]
  exact Nat.le_mul_of_pos_left _ (by omega)
theorem LowOf.w2 {top bottom : Int} {q : Fr} (h : LowOf top bottom q) : q.2.natAbs ≤ bottom.natAbs := by
  obtain ⟨g, g0, e1, e2⟩ := h.dv
  rw [e2, Int.natAbs_mul]
  exact Nat.le_mul_of_pos_left _ (by omega)
theorem pos_right {g y : Int} (g0 : 0 < g) (h : 0 < g * y) : 0 < y := Decidable.byContradiction fun n => by
  have := Int.mul_le_mul_of_nonneg_left (show y ≤ 0 by omega) (show 0 ≤ g by omega)
  rw [Int.mul_zero] at this
  omega
theorem low_of {top bottom g : Int} (b0 : 0 < bottom) (g0 : 0 < g) (d1 : g ∣ top) (d2 : g ∣ bottom) (most : ∀ d, d ∣ top → d ∣ bottom → d ∣ g) : LowOf top bottom (top / g, bottom / g) := by
  obtain ⟨x, rfl⟩ := d1
  obtain ⟨y, rfl⟩ := d2
  have gx : g * x / g = x := Int.mul_ediv_cancel_left x (by omega)
  have gy : g * y / g = y := Int.mul_ediv_cancel_left y (by omega)
  have y0 := pos_right g0 b0
  rw [gx, gy]
  refine ⟨y0, ⟨g, g0, rfl, rfl⟩, fun d h1 h2 => ?_⟩
  obtain ⟨k, ek⟩ := most (g * d) (Int.mul_dvd_mul_left g h1) (Int.mul_dvd_mul_left g h2)
  refine ⟨k, ?_⟩
  have : g * 1 = g * (d * k) := by rw [Int.mul_one, ← Int.mul_assoc]; exact ek
  exact Int.eq_of_mul_eq_mul_left (show g ≠ 0 by omega) this
abbrev N_fraction : List Str := ["top", "bottom", "one", "other"]
theorem sc_fraction : FnScope N_fraction ["top", "bottom"] (defScope s_fraction) := ⟨rfl, rfl, rfl, by decide +kernel, rfl, by decide +kernel, by decide +kernel⟩
def t_fraction (c : Cn) : TS :=
  (tSeq (tAsg (tCB kAbs (tCons (tVar 0) tNil)) (gName 2))
  (tSeq (tAsg (tVar 1) (gName 3))
  (tSeq (tWhile (tTest (tOp (cNe c.K) (tVar 3) (tC (.int 0))))
  (tPar 2 3 (tCons (tVar 3) (tCons (tOp bMod (tVar 2) (tVar 3)) tNil))))
  (tRet (tTup (tCons (tOp bDiv (tVar 0) (tVar 2)) (tCons (tOp bDiv (tVar 1) (tVar 2)) tNil)))))))
def sp_fraction (c : Cn) : Sp := fun vs H Q E => vs.length = 2 ∧ ∃ (top bottom : Int), vs = [.int top, .int bottom] ∧ 0 < bottom ∧ Wd 3000 top ∧ Wd 3000 bottom ∧ ∀ (p : Addr) (q : Fr), H p = none → LowOf top bottom q → Q (.ref p) (upd H p (.tup [.int q.1, .int q.2]))
theorem p_fraction {c : Cn} {mg : Str → Option Value} (T : Txt c mg) {vs : List V} {H : Hp} {Q : VK} {E : XK} (h : sp_fraction c vs H Q E) : t_fraction c { nx := fun _ H' => Q .non H', rt := Q } (start N_fraction vs) H := by
  obtain ⟨_, top, bottom, rfl, b0, wt, wb, k⟩ := h
  unfold t_fraction
  repeat kaf_suf
  have ab : ∃ o : Int, (if top < 0 then -top else top) = o ∧ 0 ≤ o ∧ Wd 3000 o ∧ ∀ d, d ∣ o ↔ d ∣ top := by
    by_cases n : top < 0
    · rw [if_pos n]
      exact ⟨_, rfl, by omega, wt.neg, fun d => Int.dvd_neg⟩
    · rw [if_neg n]
      exact ⟨_, rfl, by omega, wt, fun d => Iff.rfl⟩
  obtain ⟨o, eo, o0, wo, od⟩ := ab
  rw [eo]
  clear eo
  refine ⟨fun m σ H' => ∃ one other : Int, σ = [some (.int top), some (.int bottom), some (.int one), some (.int other)] ∧ H' = H ∧ 0 ≤ other ∧ 0 ≤ one ∧ (0 < one ∨ 0 < other) ∧ Wd 3000 one ∧ Wd 3000 other ∧ (∀ d, (d ∣ one ∧ d ∣ other) ↔ (d ∣ top ∧ d ∣ bottom)) ∧ m = other.toNat, ⟨_, o, bottom, rfl, rfl, by omega, o0, .inr b0, wo, wb, fun d => by rw [od], rfl⟩, ?_⟩
  rintro m σ H' ⟨one, other, rfl, rfl, r0, n0, so, w1, w2, dv, rfl⟩
  repeat kaf_suf
  refine r_iteN (fun p => ?_) (fun p => ?_)
  · have p' : 0 < other := by omega
    have s1 := Int.emod_nonneg one (show other ≠ 0 by omega)
    have s2 := Int.emod_lt_of_pos one p'
    have w3 : Wd 3000 (one % other) := w2.le s1 (by omega)
    refine ⟨fun σ' H'' => σ' = [some (.int top), some (.int bottom), some (.int other), some (.int (one % other))] ∧ H'' = H', fun σ' H'' ⟨h1, h2⟩ => ⟨_, ?_, other, one % other, h1, h2, s1, r0, .inl p', w2, w3, fun d => ?_, rfl⟩, ?_⟩
    · omega
    · have e := Int.mul_ediv_add_emod one other
      rw [← dv d]
      constructor
      · rintro ⟨h3, h4⟩
        refine ⟨?_, h3⟩
        rw [← e]
        exact Int.dvd_add (Int.dvd_mul_of_dvd_left h3) h4
      · rintro ⟨h3, h4⟩
        refine ⟨h4, ?_⟩
        have : one % other = one - other * (one / other) := by omega
        rw [this]
        exact Int.dvd_sub h3 (Int.dvd_mul_of_dvd_left h4)
    · repeat kaf_suf
      exact ⟨rfl, rfl⟩
  · subst p
    have g0 : 0 < one := by omega
    obtain ⟨d1, d2⟩ := (dv one).mp ⟨Int.dvd_refl _, Int.dvd_zero _⟩
    repeat kaf_suf
    refine v_divW (Wd.cdiv g0 w1 (by decide)) ?_
    repeat kaf_suf
    refine v_divW (Wd.cdiv g0 w1 (by decide)) ?_
    repeat kaf_suf
    intro p hp
    exact k _ _ hp (low_of b0 g0 d1 d2 fun d h1 h2 => ((dv d).mpr ⟨h1, h2⟩).1)
theorem cal_fraction {c : Cn} {mg : Str → Option Value} {base : Heap} (T : Txt c mg) : Cal c.P c.w c.K mg base CX0 1 "fraction" (sp_fraction c) := by
  obtain ⟨f, fd, F, g, b⟩ := T.F_fraction
  exact ⟨f, fd, ["top", "bottom"], F.ok (k := 0) (N := N_fraction) sc_fraction (fun vs H Q E h => h.1) (fun cdv A outer s H vs Q E hr h => ⟨t_fraction c, by
  exact (pss_cons (ps_set (i := 2) sc_fraction.nd rfl (Or.inl rfl) (pe_callB k_abs (by rfl) T.n_abs (by decide +kernel) (pa_cons (pv 0) pa_nil)))
  (pss_cons (ps_set (i := 3) sc_fraction.nd rfl (Or.inl rfl) (pv 1))
  (pss_cons (ps_while PassesOwn.never (pt_cmpR (o_ne (hu64 hr)) (pv 3) pe_int (nomark _))
  (pss_one (ps_par (by rfl) sc_fraction.nd rfl rfl (by decide) rfl rfl (pa_cons (pv 3) (pa_cons (pe_op o_mod (pv 2) (pv 3)) pa_nil)) (by rfl))))
  (pss_one (ps_ret (pe_tup (pa_cons (pe_op o_div (pv 0) (pv 2)) (pa_cons (pe_op o_div (pv 1) (pv 2)) pa_nil)))))))), p_fraction T h⟩), g, F.kp, b⟩

/-! halved bottoms -/
def red : Nat → Int → Fr
  | 0, t => (t, 1)
  | j + 1, t => if t % 2 = 0 then red j (t / 2) else (t, 2 ^ (j + 1))
theorem red_of : ∀ (j i : Nat) (t x : Int), i ≤ j → x * 2 ^ j = t * 2 ^ i → (i = 0 ∨ x % 2 = 1) → red j t = (x, 2 ^ i)
  | 0, i, t, x, hi, e, _ => by
    obtain rfl : i = 0 := by omega
    rw [Int.pow_zero, Int.mul_one, Int.mul_one] at e
    rw [e]; rfl
  | j + 1, i, t, x, hi, e, o => by
    by_cases z : i = j + 1
    · subst z
      have e' : x = t := Int.eq_of_mul_eq_mul_right (Int.ne_of_gt (Int.pow_pos (by decide))) e
      subst e'
      have : x % 2 = 1 := o.resolve_left (by omega)
      show (if x % 2 = 0 then _ else _) = _
      rw [if_neg (by omega)]
    · have hi' : i ≤ j := by omega
      obtain ⟨d, hd⟩ : ∃ d, j = i + d := ⟨j - i, by omega⟩
      have p0 : (2 : Int) ^ i ≠ 0 := Int.ne_of_gt (Int.pow_pos (by decide))
      have e2 : t = 2 * (x * 2 ^ d) := by
        refine Int.eq_of_mul_eq_mul_right p0 ?_
        rw [← e, hd, Int.pow_succ, Int.pow_add]
        ac_rfl
      show (if t % 2 = 0 then red j (t / 2) else _) = _
      rw [if_pos (by omega)]
      refine red_of j i (t / 2) x hi' ?_ o
      rw [show t / 2 = x * 2 ^ d by omega, hd, Int.pow_add]
      ac_rfl
theorem red_form : ∀ (j : Nat) (t : Int), ∃ i, i ≤ j ∧ (red j t).2 = 2 ^ i ∧ (red j t).1 * 2 ^ j = t * 2 ^ i ∧ (i = 0 ∨ (red j t).1 % 2 = 1)
  | 0, t => ⟨0, Nat.le_refl _, rfl, rfl, .inl rfl⟩
  | j + 1, t => by
    by_cases z : t % 2 = 0
    · obtain ⟨i, h1, h2, h3, h4⟩ := red_form j (t / 2)
      have e : red (j + 1) t = red j (t / 2) := if_pos z
      rw [e]
      refine ⟨i, by omega, h2, ?_, h4⟩
      rw [Int.pow_succ, ← Int.mul_assoc, h3, Int.mul_right_comm]
      rw [show t / 2 * 2 = t by omega]
    · have e : red (j + 1) t = (t, 2 ^ (j + 1)) := if_neg z
      rw [e]
      exact ⟨j + 1, Nat.le_refl _, rfl, rfl, .inr (show t % 2 = 1 by omega)⟩
theorem pow2_dvd : ∀ (j : Nat) (d : Nat), d ∣ 2 ^ j → ∃ i, i ≤ j ∧ d = 2 ^ i
  | 0, d, h => ⟨0, Nat.le_refl _, Nat.dvd_one.mp h⟩
  | j + 1, d, h => by
    obtain ⟨k, e⟩ := h
    rw [Nat.pow_succ] at e
    rcases Nat.mod_two_eq_zero_or_one d with z | z
    · obtain ⟨i, hi, e2⟩ := pow2_dvd j (d / 2) ⟨k, by
        have : d = 2 * (d / 2) := by omega
        rw [this, Nat.mul_assoc] at e
        omega⟩
      exact ⟨i + 1, by omega, by rw [Nat.pow_succ]; omega⟩
    · have hk : k % 2 = 0 := by
        have := congrArg (· % 2) e
        simp only [Nat.mul_mod_left, Nat.mul_mod d k, z] at this
        omega
      obtain ⟨i, hi, e2⟩ := pow2_dvd j d ⟨k / 2, by
        have : k = 2 * (k / 2) := by omega
        rw [this, Nat.mul_left_comm] at e
        omega⟩
      exact ⟨i, by omega, e2⟩
theorem LowOf.red {j : Nat} {t : Int} {q : Fr} (h : LowOf t (2 ^ j) q) : q = Hm.red j t := by
  obtain ⟨g, g0, e1, e2⟩ := h.dv
  have dn : q.2.toNat ∣ 2 ^ j := by
    refine ⟨g.toNat, ?_⟩
    have p := h.pos
    have : ((2 ^ j : Nat) : Int) = ((q.2.toNat * g.toNat : Nat) : Int) := by
      rw [Int.natCast_mul, Int.toNat_of_nonneg (by omega), Int.toNat_of_nonneg (by omega), Int.mul_comm, ← e2, Int.natCast_pow]
      rfl
    exact Int.ofNat.inj this
  obtain ⟨i, hi, ei⟩ := pow2_dvd j _ dn
  have e3 : q.2 = 2 ^ i := by
    have p := h.pos
    have : ((q.2.toNat : Nat) : Int) = ((2 ^ i : Nat) : Int) := by rw [ei]
    rw [Int.toNat_of_nonneg (by omega), Int.natCast_pow] at this
    exact this
  have o : i = 0 ∨ q.1 % 2 = 1 := by
    by_cases z : i = 0
    · exact .inl z
    · refine .inr ?_
      rcases Int.emod_two_eq q.1 with y | y
      · exfalso
        have d1 : (2 : Int) ∣ q.1 := ⟨q.1 / 2, by omega⟩
        have d2 : (2 : Int) ∣ q.2 := by
          rw [e3]
          exact ⟨2 ^ (i - 1), by rw [← Int.pow_succ', show i - 1 + 1 = i by omega]⟩
        obtain ⟨k, hk⟩ := h.cop 2 d1 d2
        omega
      · exact y
  rw [red_of j i t q.1 hi (by rw [h.val, e3]) o, ← e3]
/-- the fractions that are bound, of bottoms to 2 ^ 6, within 12 -/
structure NmQ (i : Nat) (q : Fr) : Prop where
  le : i ≤ 6
  bot : q.2 = 2 ^ i
  odd : i = 0 ∨ q.1 % 2 = 1
  lo : -(12 * 2 ^ i) ≤ q.1
  hi : q.1 ≤ 12 * 2 ^ i
theorem nmQ_red {j : Nat} {t : Int} (h : j ≤ 6) (l : -(12 * 2 ^ j) ≤ t) (u : t ≤ 12 * 2 ^ j) : ∃ i, i ≤ j ∧ NmQ i (red j t) := by
  obtain ⟨i, h1, h2, h3, h4⟩ := red_form j t
  have p0 : (0 : Int) < 2 ^ j := Int.pow_pos (by decide)
  have pi : (0 : Int) < 2 ^ i := Int.pow_pos (by decide)
  refine ⟨i, h1, ⟨by omega, h2, h4, ?_, ?_⟩⟩
  · refine Int.le_of_mul_le_mul_right ?_ p0
    rw [h3]
    have := Int.mul_le_mul_of_nonneg_right l (Int.le_of_lt pi)
    rw [show -(12 * 2 ^ i) * (2 : Int) ^ j = -(12 * 2 ^ j) * 2 ^ i by rw [Int.neg_mul, Int.neg_mul]; congr 1; ac_rfl]
    exact this
  · refine Int.le_of_mul_le_mul_right ?_ p0
    rw [h3]
    have := Int.mul_le_mul_of_nonneg_right u (Int.le_of_lt pi)
    rw [show (12 * 2 ^ i) * (2 : Int) ^ j = (12 * 2 ^ j) * 2 ^ i by ac_rfl]
    exact this
theorem two_pow_le {i : Nat} (h : i ≤ 6) : (1 : Int) ≤ 2 ^ i ∧ (2 : Int) ^ i ≤ 64 := by
  have : i = 0 ∨ i = 1 ∨ i = 2 ∨ i = 3 ∨ i = 4 ∨ i = 5 ∨ i = 6 := by omega
  rcases this with rfl | rfl | rfl | rfl | rfl | rfl | rfl <;> decide
theorem NmQ.wd {i : Nat} {q : Fr} (h : NmQ i q) : Wd 10 q.1 ∧ Wd 10 q.2 ∧ 0 < q.2 := by
  obtain ⟨a, b⟩ := two_pow_le h.le
  have := h.lo
  have := h.hi
  have := h.bot
  refine ⟨?_, ?_, by omega⟩
  · show q.1.natAbs < 2 ^ 10; omega
  · show q.2.natAbs < 2 ^ 10; omega
def lg (b : Int) : Nat := [(1 : Int), 2, 4, 8, 16, 32, 64].idxOf b
theorem lg_pow {i : Nat} (h : i ≤ 6) : lg (2 ^ i) = i := by
  have : i = 0 ∨ i = 1 ∨ i = 2 ∨ i = 3 ∨ i = 4 ∨ i = 5 ∨ i = 6 := by omega
  rcases this with rfl | rfl | rfl | rfl | rfl | rfl | rfl <;> decide
/-- left's move and right's of a number's game -/
def dueL (q : Fr) : Option Fr := if q.2 > 1 then some (red (lg q.2) (q.1 - 1)) else if q.1 > 0 then some (q.1 - 1, 1) else none
def dueR (q : Fr) : Option Fr := if q.2 > 1 then some (red (lg q.2) (q.1 + 1)) else if q.1 > 0 then none else if q.1 < 0 then some (q.1 + 1, 1) else none
theorem NmQ.big {i : Nat} {q : Fr} (h : NmQ i q) (n : i ≠ 0) : q.2 > 1 := by
  rw [h.bot, show i = (i - 1) + 1 by omega, Int.pow_succ]
  have : (0 : Int) < 2 ^ (i - 1) := Int.pow_pos (by decide)
  omega
theorem NmQ.due {i : Nat} {q : Fr} (h : NmQ i q) (n : i ≠ 0) : dueL q = some (red i (q.1 - 1)) ∧ dueR q = some (red i (q.1 + 1)) := by
  have e := h.big n
  unfold dueL dueR
  rw [if_pos e, if_pos e, h.bot, lg_pow h.le]
  exact ⟨rfl, rfl⟩
/-- the dues of a fraction have lesser bottoms -/
theorem NmQ.less {i : Nat} {q : Fr} (h : NmQ i q) (n : i ≠ 0) : (∃ k, k < i ∧ NmQ k (red i (q.1 - 1))) ∧ ∃ k, k < i ∧ NmQ k (red i (q.1 + 1)) := by
  have o := h.odd.resolve_left n
  have l := h.lo
  have u := h.hi
  obtain ⟨j, rfl⟩ : ∃ j, i = j + 1 := ⟨i - 1, by omega⟩
  have e2 : (12 : Int) * 2 ^ (j + 1) = 2 * (12 * 2 ^ j) := by rw [Int.pow_succ]; omega
  have lo : ∀ t : Int, t % 2 = 0 → -(12 * 2 ^ (j + 1)) ≤ t → t ≤ 12 * 2 ^ (j + 1) → ∃ k, k < j + 1 ∧ NmQ k (red (j + 1) t) := fun t e l u => by
    rw [show red (j + 1) t = red j (t / 2) from if_pos e]
    obtain ⟨k, hk, m⟩ := nmQ_red (j := j) (t := t / 2) (by have := h.le; omega) (by omega) (by omega)
    exact ⟨k, by omega, m⟩
  exact ⟨lo _ (by omega) (by omega) (by omega), lo _ (by omega) (by omega) (by omega)⟩
theorem NmQ.whole {q : Fr} (h : NmQ 0 q) : q.2 = 1 ∧ -12 ≤ q.1 ∧ q.1 ≤ 12 := ⟨h.bot, h.lo, h.hi⟩
theorem nmQ_int {t : Int} (a : -12 ≤ t) (b : t ≤ 12) : NmQ 0 (t, 1) := ⟨by decide, rfl, .inl rfl, a, b⟩

/-! games of numbers -/
def OneN (P : Fr → Nat → Prop) : Option Fr → List Int → Prop
  | none, ms => ms = []
  | some r, ms => ∃ x : Nat, ms = [(x : Int)] ∧ P r x
theorem OneN.imp {P R : Fr → Nat → Prop} {o : Option Fr} {ms : List Int} (h : OneN P o ms) (f : ∀ q x, P q x → R q x) : OneN R o ms := by
  cases o with
  | none => exact h
  | some r => obtain ⟨x, e, p⟩ := h; exact ⟨x, e, f _ _ p⟩
def NumN (gs : List Gm) : Nat → Fr → Nat → Prop
  | 0, _, _ => False
  | n + 1, q, g => ∃ gm, gs[g]? = some gm ∧ OneN (NumN gs n) (dueL q) gm.1 ∧ OneN (NumN gs n) (dueR q) gm.2
def NumG (gs : List Gm) (q : Fr) (g : Nat) : Prop := ∃ n, NumN gs n q g
theorem NumN.up {gs : List Gm} : ∀ {n m : Nat} {q : Fr} {g : Nat}, NumN gs n q g → n ≤ m → NumN gs m q g
  | 0, _, _, _, h, _ => h.elim
  | n + 1, m, q, g, ⟨gm, e, l, r⟩, k => by
    obtain ⟨m, rfl⟩ : ∃ m', m = m' + 1 := ⟨m - 1, by omega⟩
    exact ⟨gm, e, l.imp fun _ _ p => p.up (by omega), r.imp fun _ _ p => p.up (by omega)⟩
theorem NumN.more {gs f : List Gm} : ∀ {n : Nat} {q : Fr} {g : Nat}, NumN gs n q g → NumN (gs ++ f) n q g
  | 0, _, _, h => h
  | n + 1, q, g, ⟨gm, e, l, r⟩ => ⟨gm, by rw [List.getElem?_append_left (List.getElem?_eq_some_iff.mp e).1]; exact e, l.imp fun _ _ p => p.more, r.imp fun _ _ p => p.more⟩
theorem NumG.more {gs f : List Gm} {q : Fr} {g : Nat} (h : NumG gs q g) : NumG (gs ++ f) q g := by
  obtain ⟨n, h⟩ := h
  exact ⟨n, h.more⟩
theorem OneN.up {gs : List Gm} {o : Option Fr} {ms : List Int} (h : OneN (NumG gs) o ms) : ∃ n, OneN (NumN gs n) o ms := by
  cases o with
  | none => exact ⟨0, h⟩
  | some r => obtain ⟨x, e, n, p⟩ := h; exact ⟨n, x, e, p⟩
theorem NumG.mk {gs : List Gm} {q : Fr} {g : Nat} {gm : Gm} (e : gs[g]? = some gm) (l : OneN (NumG gs) (dueL q) gm.1) (r : OneN (NumG gs) (dueR q) gm.2) : NumG gs q g := by
  obtain ⟨n, l⟩ := l.up
  obtain ⟨m, r⟩ := r.up
  exact ⟨max n m + 1, gm, e, l.imp fun _ _ p => p.up (Nat.le_max_left _ _), r.imp fun _ _ p => p.up (Nat.le_max_right _ _)⟩
theorem NumG.inv {gs : List Gm} {q : Fr} {g : Nat} (h : NumG gs q g) : ∃ gm, gs[g]? = some gm ∧ OneN (NumG gs) (dueL q) gm.1 ∧ OneN (NumG gs) (dueR q) gm.2 := by
  obtain ⟨n, h⟩ := h
  cases n with
  | zero => exact h.elim
  | succ n =>
    obtain ⟨gm, e, l, r⟩ := h
    exact ⟨gm, e, l.imp fun _ _ p => ⟨n, p⟩, r.imp fun _ _ p => ⟨n, p⟩⟩
theorem NumN.uniq {gs : List Gm} (o : GOk gs) : ∀ {n : Nat} {q : Fr} {g h : Nat}, NumN gs n q g → NumG gs q h → g = h
  | 0, _, _, _, a, _ => a.elim
  | n + 1, q, g, h, ⟨gm, e, l, r⟩, b => by
    obtain ⟨hm, e', l', r'⟩ := b.inv
    have one : ∀ {d : Option Fr} {ms ns : List Int}, OneN (NumN gs n) d ms → OneN (NumG gs) d ns → ms = ns := fun {d ms ns} a b => by
      cases d with
      | none => rw [show ms = [] from a, show ns = [] from b]
      | some r =>
        obtain ⟨x, rfl, p⟩ := a
        obtain ⟨y, rfl, p'⟩ := b
        rw [p.uniq o p']
    have em : gm = hm := Prod.ext (one l l') (one r r')
    subst em
    obtain ⟨l1, e1⟩ := List.getElem?_eq_some_iff.mp e
    obtain ⟨l2, e2⟩ := List.getElem?_eq_some_iff.mp e'
    exact (List.getElem_inj o.nd).mp (e1.trans e2.symm)
theorem NumG.uniq {gs : List Gm} (o : GOk gs) {q : Fr} {g h : Nat} (a : NumG gs q g) (b : NumG gs q h) : g = h := by
  obtain ⟨n, a⟩ := a
  exact a.uniq o b
theorem NumG.lt {gs : List Gm} {q : Fr} {g : Nat} (a : NumG gs q g) : g < gs.length := by
  obtain ⟨gm, e, _⟩ := a.inv
  exact (List.getElem?_eq_some_iff.mp e).1
theorem numG_zero {gs : List Gm} (o : GOk gs) : NumG gs (0, 1) 0 := NumG.mk o.zero rfl rfl
theorem canon1 (x : Int) : canon [x] = [x] := rfl
/-- the game that is put has its number -/
theorem numG_add {gs : List Gm} {q : Fr} {gm : Gm} (l : OneN (NumG gs) (dueL q) gm.1) (r : OneN (NumG gs) (dueR q) gm.2) : NumG (addG gs gm) q (ixG (addG gs gm) gm) := by
  obtain ⟨f, e, _⟩ := addG_grow (gs := gs) (k := gm)
  refine NumG.mk (ixG_get (addG_mem gs gm)) ?_ ?_
  · rw [e]; exact l.imp fun _ _ p => p.more
  · rw [e]; exact r.imp fun _ _ p => p.more

abbrev N_is_bound : List Str := ["q"]
theorem sc_is_bound : FnScope N_is_bound ["q"] (defScope s_is_bound) := ⟨rfl, rfl, rfl, by decide +kernel, rfl, by decide +kernel, by decide +kernel⟩
def t_is_bound (c : Cn) : TS :=
  (tRet (tOp (cEq c.K) (tOp bAnd (tOp (bIx c.P c.w c.K) (tVar 0) (tC (.int 1))) (tOp bSub (tOp (bIx c.P c.w c.K) (tVar 0) (tC (.int 1))) (tC (.int 1)))) (tC (.int 0))))
def sp_is_bound (c : Cn) : Sp := fun vs H Q E => vs.length = 1 ∧ ∃ (v : V) (q : Fr), vs = [v] ∧ FrV H v q ∧ 0 < q.2 ∧ q.2 ≤ 64 ∧ ∀ b : Bool, ((∃ i, i ≤ 6 ∧ q.2 = 2 ^ i) → b = true) → ((¬ ∃ i, i ≤ 6 ∧ q.2 = 2 ^ i) → b = false) → Q (.bl b) H
theorem bound_ok : ∀ b : Fin 64, (decide (Builtin.bitAnd ((b.val : Int) + 1) ((b.val : Int) + 1 - 1) = 0)) = ([0, 1, 2, 3, 4, 5, 6].any fun i => decide ((b.val : Int) + 1 = 2 ^ i)) := by decide +kernel
theorem p_is_bound {c : Cn} {mg : Str → Option Value} (T : Txt c mg) {vs : List V} {H : Hp} {Q : VK} {E : XK} (h : sp_is_bound c vs H Q E) : t_is_bound c { nx := fun _ H' => Q .non H', rt := Q } (start N_is_bound vs) H := by
  obtain ⟨_, v, q, rfl, ⟨t, rfl, e⟩, p0, p1, k⟩ := h
  unfold t_is_bound
  repeat kaf_suf
  refine ⟨_, _, rfl, rfl, v_eq ?_⟩
  repeat kaf_suf
  have h := bound_ok ⟨(q.2 - 1).toNat, by omega⟩
  rw [show (((q.2 - 1).toNat : Nat) : Int) + 1 = q.2 by omega] at h
  refine k _ (fun ⟨i, hi, ei⟩ => ?_) (fun n => ?_)
  · rw [h]
    refine List.any_eq_true.mpr ⟨i, ?_, decide_eq_true ei⟩
    have : i = 0 ∨ i = 1 ∨ i = 2 ∨ i = 3 ∨ i = 4 ∨ i = 5 ∨ i = 6 := by omega
    rcases this with rfl | rfl | rfl | rfl | rfl | rfl | rfl <;> decide
  · rw [h]
    refine List.any_eq_false.mpr fun i hi => ?_
    intro z
    have z := of_decide_eq_true z
    exact n ⟨i, by simp at hi; omega, z⟩
theorem cal_is_bound {c : Cn} {mg : Str → Option Value} {base : Heap} (T : Txt c mg) : Cal c.P c.w c.K mg base CX0 1 "is_bound" (sp_is_bound c) := by
  obtain ⟨f, fd, F, g, b⟩ := T.F_is_bound
  exact ⟨f, fd, ["q"], F.ok (k := 0) (N := N_is_bound) sc_is_bound (fun vs H Q E h => h.1) (fun cdv A outer s H vs Q E hr h => ⟨t_is_bound c, by
  exact (pss_one (ps_ret (pe_cmpR (o_eq (hu64 hr)) (pe_op o_and (pe_ix (x_ix (hu64 hr)) (pv 0) pe_int (fun _ _ => rfl)) (pe_op o_sub (pe_ix (x_ix (hu64 hr)) (pv 0) pe_int (fun _ _ => rfl)) pe_int)) pe_int (nomark _)))), p_is_bound T h⟩), g, F.kp, b⟩
theorem FrV.book {c : Cn} {H H' : Hp} {v : V} {q : Fr} {b : Addr} {M : Addr → Prop} {gs : List Gm} {ds : List Int} (h : FrV H v q) (B : BookAt c H b M gs ds) (k : Keep M H H') : FrV H' v q := h.keepM k fun _ e => B.tupN e
abbrev N_whole_game : List Str := ["book", "n", "g", "k"]
theorem sc_whole_game : FnScope N_whole_game ["book", "n"] (defScope s_whole_game) := ⟨rfl, rfl, rfl, by decide +kernel, rfl, by decide +kernel, by decide +kernel⟩
def t_whole_game (c : Cn) : TS :=
  (tSeq (tAsg (tC (.int 0)) (gName 2))
  (tSeq (tFor (iRng1 (tCons (tCB kAbs (tCons (tVar 1) tNil)) tNil)) (gName 3)
  (tIfS (tTest (tOp cGt (tVar 1) (tC (.int 0))))
  (tAsg (tMeth c.cBook "game" (sp_Book_game c) [] E0 (tVar 0) (tCons (tLst (tCons (tVar 2) tNil)) (tCons (tLst tNil) tNil))) (gName 2))
  (tAsg (tMeth c.cBook "game" (sp_Book_game c) [] E0 (tVar 0) (tCons (tLst tNil) (tCons (tLst (tCons (tVar 2) tNil)) tNil))) (gName 2))))
  (tRet (tVar 2))))
def sp_whole_game (c : Cn) : Sp := fun vs H Q E => vs.length = 2 ∧ ∃ (b : Addr) (M : Addr → Prop) (gs : List Gm) (ds : List Int) (n : Int), vs = [.ref b, .int n] ∧ BookAt c H b M gs ds ∧ -12 ≤ n ∧ n ≤ 12 ∧ gs.length ≤ 80000 ∧
  ∀ (H' : Hp) (f : List Gm) (e : List Int) (g : Nat), Keep M H H' → BookAt c H' b M (gs ++ f) (ds ++ e) → f.length ≤ n.natAbs → NumG (gs ++ f) (n, 1) g → Q (.int g) H'
theorem dueL_pos {i : Nat} : dueL ((i : Int) + 1, 1) = some ((i : Int), 1) := by
  unfold dueL
  rw [if_neg (by show ¬ (1 : Int) > 1; decide), if_pos (by show (i : Int) + 1 > 0; omega)]
  show some ((i : Int) + 1 - 1, (1 : Int)) = _
  rw [Int.add_sub_cancel]
theorem dueR_pos {i : Nat} : dueR ((i : Int) + 1, 1) = none := by
  unfold dueR
  rw [if_neg (by show ¬ (1 : Int) > 1; decide), if_pos (by show (i : Int) + 1 > 0; omega)]
theorem dueL_neg {i : Nat} : dueL (-((i : Int) + 1), 1) = none := by
  unfold dueL
  rw [if_neg (by show ¬ (1 : Int) > 1; decide), if_neg (by show ¬ -((i : Int) + 1) > 0; omega)]
theorem dueR_neg {i : Nat} : dueR (-((i : Int) + 1), 1) = some (-(i : Int), 1) := by
  unfold dueR
  rw [if_neg (by show ¬ (1 : Int) > 1; decide), if_neg (by show ¬ -((i : Int) + 1) > 0; omega), if_pos (by show -((i : Int) + 1) < 0; omega)]
  show some (-((i : Int) + 1) + 1, (1 : Int)) = _
  rw [show -((i : Int) + 1) + 1 = -(i : Int) by omega]
theorem p_whole_game {c : Cn} {mg : Str → Option Value} (T : Txt c mg) {vs : List V} {H : Hp} {Q : VK} {E : XK} (h : sp_whole_game c vs H Q E) : t_whole_game c { nx := fun _ H' => Q .non H', rt := Q } (start N_whole_game vs) H := by
  obtain ⟨_, b, M, gs, ds, n, rfl, B, n0, n1, few, k⟩ := h
  unfold t_whole_game
  repeat kaf_suf
  have ab : (if n < 0 then -n else n) = (n.natAbs : Int) := by split <;> omega
  rw [ab]
  have hn : (n.natAbs : Int) < 100 := by omega
  repeat kaf_suf
  refine for_range (lo := 0) (n := (n.natAbs : Int).toNat) (fun i σ H' => ∃ (o : Option V) (f : List Gm) (e : List Int) (g : Nat), σ = [some (.ref b), some (.int n), some (.int g), o] ∧ Keep M H H' ∧ BookAt c H' b M (gs ++ f) (ds ++ e) ∧ f.length ≤ i ∧ NumG (gs ++ f) (if 0 < n then (i : Int) else -(i : Int), 1) g) ⟨_, [], [], 0, rfl, Keep.refl, by rw [List.append_nil, List.append_nil]; exact B, Nat.le_refl _, ?_⟩ ?_ ?_
  · rw [List.append_nil]
    have : (if 0 < n then ((0 : Nat) : Int) else -((0 : Nat) : Int)) = 0 := by split <;> rfl
    rw [this]
    exact numG_zero B.ok
  · rintro i σ H1 hi ⟨o, f, e, g, rfl, k1, B1, fl, ng⟩
    have gl := ng.lt
    obtain ⟨dx1, mv1, nm1, dp1, hb1⟩ := B1.ins_
    obtain ⟨f1, e1, fl1, _⟩ := addG_grow (gs := gs ++ f) (k := ([(g : Int)], []))
    obtain ⟨f2, e2, fl2, _⟩ := addG_grow (gs := gs ++ f) (k := ([], [(g : Int)]))
    repeat kaf_suf
    refine r_ite (fun p => ?_) (fun p => ?_)
    · have p' : 0 < n := p
      rw [if_pos p'] at ng
      repeat kaf_suf
      intro l1 hl1
      repeat kaf_suf
      intro l2 hl2
      have kk := (Keep.alloc (M := Nil) (o := .lst [.int g]) hl1).new (o := .lst []) hl2
      have B2 := B1.same kk
      have nl1 := B1.new hl1
      have nl2 := (B1.same (Keep.alloc (o := .lst [.int g]) hl1)).new hl2
      repeat kaf_suf
      refine ⟨rfl, b, l1, l2, M, gs ++ f, ds ++ e, [(g : Int)], [], rfl, B2, get_new hl2 upd_same, upd_same, nl1, nl2, by rw [List.length_append]; omega, by simp, by simp, fun m hm => by simp at hm; omega, fun H3 e' k3 B3 => ?_⟩
      have ng3 := numG_add (gs := gs ++ f) (q := ((i : Int) + 1, 1)) (gm := ([(g : Int)], [])) (by rw [dueL_pos]; exact ⟨g, rfl, ng⟩) (by rw [dueR_pos]; rfl)
      rw [show canon [(g : Int)] = [(g : Int)] from rfl, show canon [] = [] from rfl, e1, List.append_assoc, List.append_assoc] at *
      repeat kaf_suf
      refine ⟨_, f ++ f1, _, _, rfl, (k1.trans kk.weak).trans k3, B3, by rw [List.length_append]; omega, ?_⟩
      rw [if_pos p']
      exact ng3
    · have p' : ¬ 0 < n := p
      rw [if_neg p'] at ng
      repeat kaf_suf
      intro l1 hl1
      repeat kaf_suf
      intro l2 hl2
      have kk := (Keep.alloc (M := Nil) (o := .lst []) hl1).new (o := .lst [.int g]) hl2
      have B2 := B1.same kk
      have nl1 := B1.new hl1
      have nl2 := (B1.same (Keep.alloc (o := .lst []) hl1)).new hl2
      repeat kaf_suf
      refine ⟨rfl, b, l1, l2, M, gs ++ f, ds ++ e, [], [(g : Int)], rfl, B2, get_new hl2 upd_same, upd_same, nl1, nl2, by rw [List.length_append]; omega, by simp, by simp, fun m hm => by simp at hm; omega, fun H3 e' k3 B3 => ?_⟩
      have ng3 := numG_add (gs := gs ++ f) (q := (-((i : Int) + 1), 1)) (gm := ([], [(g : Int)])) (by rw [dueL_neg]; rfl) (by rw [dueR_neg]; exact ⟨g, rfl, ng⟩)
      rw [show canon [(g : Int)] = [(g : Int)] from rfl, show canon [] = [] from rfl, e2, List.append_assoc, List.append_assoc] at *
      repeat kaf_suf
      refine ⟨_, f ++ f2, _, _, rfl, (k1.trans kk.weak).trans k3, B3, by rw [List.length_append]; omega, ?_⟩
      rw [if_neg p']
      exact ng3
  · rintro σ H1 ⟨o, f, e, g, rfl, k1, B1, fl, ng⟩
    have en : (if 0 < n then (((n.natAbs : Int).toNat : Nat) : Int) else -(((n.natAbs : Int).toNat : Nat) : Int)) = n := by split <;> omega
    rw [en] at ng
    repeat kaf_suf
    exact k H1 f e g k1 B1 (by omega) ng
theorem cal_whole_game {c : Cn} {mg : Str → Option Value} {base : Heap} (T : Txt c mg) : Cal c.P c.w c.K mg base CX0 4 "whole_game" (sp_whole_game c) := by
  obtain ⟨f, fd, F, g, b⟩ := T.F_whole_game
  exact ⟨f, fd, ["book", "n"], F.ok (k := 3) (N := N_whole_game) sc_whole_game (fun vs H Q E h => h.1) (fun cdv A outer s H vs Q E hr h => ⟨t_whole_game c, by
  exact (pss_cons (ps_set (i := 2) sc_whole_game.nd rfl (Or.inl rfl) pe_int)
  (pss_cons (ps_for PassesOwn.never rfl (pi_range1 rfl T.n_range (pa_cons (pe_callB k_abs (by rfl) T.n_abs (by decide +kernel) (pa_cons (pv 1) pa_nil)) pa_nil)) (pg_name (i := 3) sc_whole_game.nd rfl (Or.inl rfl))
  (pss_one (ps_if (pt_cmpR o_gt (pv 1) pe_int (nomark _)) (pss_one (ps_set (i := 2) sc_whole_game.nd rfl (Or.inl rfl) (e_meth (met_Book_game T) hr (by decide) passL (pv 0) (pa_cons (pe_lst (pa_cons (pv 2) pa_nil)) (pa_cons (pe_lst pa_nil) pa_nil))))) (pss_one (ps_set (i := 2) sc_whole_game.nd rfl (Or.inl rfl) (e_meth (met_Book_game T) hr (by decide) passL (pv 0) (pa_cons (pe_lst pa_nil) (pa_cons (pe_lst (pa_cons (pv 2) pa_nil)) pa_nil))))))))
  (pss_one (ps_ret (pv 2))))), p_whole_game T h⟩), g, F.kp, b⟩

def sp_put_number (n : Nat) (c : Cn) : Sp := fun vs H Q E => vs.length = 2 ∧ ∃ (b : Addr) (M : Addr → Prop) (gs : List Gm) (ds : List Int) (v : V) (q : Fr) (i : Nat), vs = [.ref b, v] ∧ BookAt c H b M gs ds ∧ FrV H v q ∧ NmQ i q ∧ i < n ∧ gs.length + 13 * 2 ^ i ≤ 80001 ∧
  ∀ (H' : Hp) (f : List Gm) (e : List Int) (g : Nat), Keep M H H' → BookAt c H' b M (gs ++ f) (ds ++ e) → f.length + 1 ≤ 13 * 2 ^ i → NumG (gs ++ f) q g → Q (.int g) H'
theorem z_put_number {c : Cn} {vs : List V} {H : Hp} {Q : VK} {E : XK} (h : sp_put_number 0 c vs H Q E) : False := by
  obtain ⟨_, _, _, _, _, _, _, i, _, _, _, _, hi, _⟩ := h
  omega
abbrev N_put_number : List Str := ["book", "q", "top", "bottom", "left", "right"]
theorem sc_put_number : FnScope N_put_number ["book", "q"] (defScope s_put_number) := ⟨rfl, rfl, rfl, by decide +kernel, rfl, by decide +kernel, by decide +kernel⟩
def t_put_number (n : Nat) (c : Cn) : TS :=
  (tSeq (tAsg (tVar 1) (gSeq c.K 2 (gCons (gName 2) (gCons (gName 3) gNil))))
  (tSeq (tIfS (tTest (tOp (cEq c.K) (tVar 3) (tC (.int 1))))
  (tRet (tCall (sp_whole_game c) [] E0 (tCons (tVar 0) (tCons (tVar 2) tNil))))
  tNext)
  (tSeq (tAsg (tCall (sp_put_number n c) [] E0 (tCons (tVar 0) (tCons (tCall (sp_fraction c) [] E0 (tCons (tOp bSub (tVar 2) (tC (.int 1))) (tCons (tVar 3) tNil))) tNil))) (gName 4))
  (tSeq (tAsg (tCall (sp_put_number n c) [] E0 (tCons (tVar 0) (tCons (tCall (sp_fraction c) [] E0 (tCons (tOp (bAdd c.K) (tVar 2) (tC (.int 1))) (tCons (tVar 3) tNil))) tNil))) (gName 5))
  (tRet (tMeth c.cBook "game" (sp_Book_game c) [] E0 (tVar 0) (tCons (tLst (tCons (tVar 4) tNil)) (tCons (tLst (tCons (tVar 5) tNil)) tNil))))))))
theorem p_put_number {n : Nat} {c : Cn} {mg : Str → Option Value} (T : Txt c mg) {vs : List V} {H : Hp} {Q : VK} {E : XK} (h : sp_put_number (n + 1) c vs H Q E) : t_put_number n c { nx := fun _ H' => Q .non H', rt := Q } (start N_put_number vs) H := by
  obtain ⟨_, b, M, gs, ds, v, q, i, rfl, B, fv, nq, hi, few, k⟩ := h
  obtain ⟨t, rfl, et⟩ := id fv
  obtain ⟨w1, w2, pos⟩ := nq.wd
  unfold t_put_number
  by_cases z : i = 0
  · subst z
    obtain ⟨e1, lo, hi⟩ := nq.whole
    have eq : q = (q.1, 1) := Prod.ext rfl e1
    repeat kaf_suf
    refine ⟨rfl, b, M, gs, ds, q.1, rfl, B, lo, hi, by omega, fun H1 f e g k1 B1 fl ng => ?_⟩
    repeat kaf_suf
    exact k H1 f e g k1 B1 (by omega) (by rw [eq]; exact ng)
  · have big := nq.big z
    have e1 : ¬ q.2 = 1 := by omega
    obtain ⟨⟨k1, hk1, nl⟩, ⟨k2, hk2, nr⟩⟩ := nq.less z
    obtain ⟨dl, dr⟩ := nq.due z
    obtain ⟨j, rfl⟩ : ∃ j, i = j + 1 := ⟨i - 1, by omega⟩
    have c1 : 2 ^ k1 ≤ 2 ^ j := Nat.pow_le_pow_right (by decide) (by omega)
    have c2 : 2 ^ k2 ≤ 2 ^ j := Nat.pow_le_pow_right (by decide) (by omega)
    have c3 : 2 ^ (j + 1) = 2 * 2 ^ j := by rw [Nat.pow_succ, Nat.mul_comm]
    have p1 : 0 < 2 ^ k1 := Nat.pow_pos (by decide)
    rw [c3] at few k
    repeat kaf_suf
    refine ⟨rfl, q.1 - 1, q.2, rfl, pos, (w1.sub (Wd.one (by decide))).mono (by decide), w2.mono (by decide), fun pl ql hpl lowl => ?_⟩
    have el : ql = red (j + 1) (q.1 - 1) := LowOf.red (by rw [← nq.bot]; exact lowl)
    subst el
    have kl := Keep.alloc (M := Nil) (o := .tup [.int (red (j + 1) (q.1 - 1)).1, .int (red (j + 1) (q.1 - 1)).2]) hpl
    repeat kaf_suf
    refine ⟨rfl, b, M, gs, ds, .ref pl, _, k1, rfl, B.same kl, ⟨pl, rfl, upd_same⟩, nl, by omega, by omega, fun H1 f1 e1 g1 kk1 B1 fl1 ng1 => ?_⟩
    have K1 : Keep M H H1 := kl.weak.trans kk1
    clear kk1 kl
    have gl1 := ng1.lt
    repeat kaf_suf
    refine ⟨rfl, q.1 + 1, q.2, rfl, pos, (w1.add (Wd.one (by decide))).mono (by decide), w2.mono (by decide), fun pr qr hpr lowr => ?_⟩
    have er : qr = red (j + 1) (q.1 + 1) := LowOf.red (by rw [← nq.bot]; exact lowr)
    subst er
    have kr := Keep.alloc (M := Nil) (o := .tup [.int (red (j + 1) (q.1 + 1)).1, .int (red (j + 1) (q.1 + 1)).2]) hpr
    repeat kaf_suf
    refine ⟨rfl, b, M, _, _, .ref pr, _, k2, rfl, B1.same kr, ⟨pr, rfl, upd_same⟩, nr, by omega, by rw [List.length_append]; omega, fun H2 f2 e2 g2 kk2 B2 fl2 ng2 => ?_⟩
    have K2 : Keep M H H2 := K1.trans (kr.weak.trans kk2)
    clear kk2 kr K1
    have gl2 := ng2.lt
    rw [List.length_append, List.length_append] at gl2
    rw [List.length_append] at gl1
    have ng1' := ng1.more (f := f2)
    obtain ⟨dx1, mv1, nm1, dp1, hb1⟩ := B2.ins_
    repeat kaf_suf
    intro l1 hl1
    repeat kaf_suf
    intro l2 hl2
    have kk := (Keep.alloc (M := Nil) (o := .lst [.int g1]) hl1).new (o := .lst [.int g2]) hl2
    have B3 := B2.same kk
    have nl1 := B2.new hl1
    have nl2 := (B2.same (Keep.alloc (o := .lst [.int g1]) hl1)).new hl2
    obtain ⟨f3, e3, fl3, _⟩ := addG_grow (gs := gs ++ f1 ++ f2) (k := ([(g1 : Int)], [(g2 : Int)]))
    have ng3 := numG_add (gs := gs ++ f1 ++ f2) (q := q) (gm := ([(g1 : Int)], [(g2 : Int)])) (by rw [dl]; exact ⟨g1, rfl, ng1'⟩) (by rw [dr]; exact ⟨g2, rfl, ng2⟩)
    repeat kaf_suf
    refine ⟨rfl, b, l1, l2, M, _, _, [(g1 : Int)], [(g2 : Int)], rfl, B3, get_new hl2 upd_same, upd_same, nl1, nl2, by rw [List.length_append, List.length_append]; omega, by simp, by simp, fun m hm => by simp at hm; rw [List.length_append, List.length_append]; omega, fun H3 e' k3 B4 => ?_⟩
    rw [show canon [(g1 : Int)] = [(g1 : Int)] from rfl, show canon [(g2 : Int)] = [(g2 : Int)] from rfl] at *
    rw [e3] at B4 ng3
    repeat kaf_suf
    rw [e3]
    rw [List.append_assoc, List.append_assoc] at *
    rw [List.append_assoc, List.append_assoc] at B4
    exact k H3 (f1 ++ (f2 ++ f3)) _ _ (K2.trans (kk.weak.trans k3)) B4 (by rw [List.length_append, List.length_append]; omega) ng3
theorem cal_put_number {c : Cn} {mg : Str → Option Value} {base : Heap} (T : Txt c mg) : ∀ n : Nat, Cal c.P c.w c.K mg base CX0 (5 + n) "put_number" (sp_put_number n c)
  | 0 => by
    obtain ⟨f, fd, F, g, b⟩ := T.F_put_number
    exact ⟨f, fd, ["book", "q"], F.ok (k := 4) (N := N_put_number) sc_put_number (fun vs H Q E h => (z_put_number h).elim) (fun cdv A outer s H vs Q E hr h => (z_put_number h).elim), g, F.kp, b⟩
  | n + 1 => by
    obtain ⟨f, fd, F, g, b⟩ := T.F_put_number
    exact ⟨f, fd, ["book", "q"], F.ok (k := 5 + n) (N := N_put_number) sc_put_number (fun vs H Q E h => h.1) (fun cdv A outer s H vs Q E hr h => ⟨t_put_number n c, by
  exact (pss_cons (ps_asg (pv 1) (g_seq rfl (pgs_cons (pg_name (i := 2) sc_put_number.nd rfl (Or.inl rfl)) (pgs_cons (pg_name (i := 3) sc_put_number.nd rfl (Or.inl rfl)) pgs_nil))))
  (pss_cons (ps_if (pt_cmpR (o_eq (hu64 hr)) (pv 3) pe_int (nomark _)) (pss_one (ps_ret (e_call (cal_whole_game T) hr (by omega) pass0 rfl (pa_cons (pv 0) (pa_cons (pv 2) pa_nil))))) pss_nil)
  (pss_cons (ps_set (i := 4) sc_put_number.nd rfl (Or.inl rfl) (e_call (cal_put_number T n) hr (by omega) pass0 rfl (pa_cons (pv 0) (pa_cons (e_call (cal_fraction T) hr (by omega) pass0 rfl (pa_cons (pe_op o_sub (pv 2) pe_int) (pa_cons (pv 3) pa_nil))) pa_nil))))
  (pss_cons (ps_set (i := 5) sc_put_number.nd rfl (Or.inl rfl) (e_call (cal_put_number T n) hr (by omega) pass0 rfl (pa_cons (pv 0) (pa_cons (e_call (cal_fraction T) hr (by omega) pass0 rfl (pa_cons (pe_op o_add (pv 2) pe_int) (pa_cons (pv 3) pa_nil))) pa_nil))))
  (pss_one (ps_ret (e_meth (met_Book_game T) hr (by omega) passL (pv 0) (pa_cons (pe_lst (pa_cons (pv 4) pa_nil)) (pa_cons (pe_lst (pa_cons (pv 5) pa_nil)) pa_nil))))))))), p_put_number T h⟩), g, F.kp, b⟩
/-- fractions that are refused -/
def BadF (q : Fr) : Prop := q.2 > 64 ∨ (q.2 ≤ 64 ∧ ¬ ∃ i, i ≤ 6 ∧ q.2 = 2 ^ i) ∨ ((∃ i, i ≤ 6 ∧ q.2 = 2 ^ i) ∧ (12 * q.2 < q.1 ∨ 12 * q.2 < -q.1))
abbrev N_number_game : List Str := ["book", "q"]
theorem sc_number_game : FnScope N_number_game ["book", "q"] (defScope s_number_game) := ⟨rfl, rfl, rfl, by decide +kernel, rfl, by decide +kernel, by decide +kernel⟩
def t_number_game (c : Cn) (E : XK) : TS :=
  (tSeq (tIfS (tOr (tTest (tOp cGt (tOp (bIx c.P c.w c.K) (tVar 1) (tC (.int 1))) (tC (.int 64)))) (tOr (tNot (tTru c.K (tCall (sp_is_bound c) [] E0 (tCons (tVar 1) tNil)))) (tTest (tOp cGt (tCB kAbs (tCons (tOp (bIx c.P c.w c.K) (tVar 1) (tC (.int 0))) tNil)) (tOp bMul (tC (.int 12)) (tOp (bIx c.P c.w c.K) (tVar 1) (tC (.int 1))))))))
  (tRaiseC c.cNoNumber (fun cls d _ H => E cls d H))
  tNext)
  (tRet (tCall (sp_put_number 7 c) [] E0 (tCons (tVar 0) (tCons (tVar 1) tNil)))))
def sp_number_game (c : Cn) : Sp := fun vs H Q E => vs.length = 2 ∧ ∃ (b : Addr) (M : Addr → Prop) (gs : List Gm) (ds : List Int) (v : V) (q : Fr) (i : Nat), vs = [.ref b, v] ∧ BookAt c H b M gs ds ∧ FrV H v q ∧ NmQ i q ∧ gs.length ≤ 79000 ∧
  ∀ (H' : Hp) (f : List Gm) (e : List Int) (g : Nat), Keep M H H' → BookAt c H' b M (gs ++ f) (ds ++ e) → f.length ≤ 831 → NumG (gs ++ f) q g → Q (.int g) H'
theorem p_number_game {c : Cn} {mg : Str → Option Value} (T : Txt c mg) {vs : List V} {H : Hp} {Q : VK} {E : XK} (h : sp_number_game c vs H Q E) : t_number_game c E { nx := fun _ H' => Q .non H', rt := Q } (start N_number_game vs) H := by
  obtain ⟨_, b, M, gs, ds, v, q, i, rfl, B, fv, nq, few, k⟩ := h
  obtain ⟨t, rfl, et⟩ := id fv
  obtain ⟨w1, w2, pos⟩ := nq.wd
  obtain ⟨a1, a2⟩ := two_pow_le nq.le
  have bt := nq.bot
  have lo := nq.lo
  have hi := nq.hi
  have c6 : 2 ^ i ≤ 2 ^ 6 := Nat.pow_le_pow_right (by decide) nq.le
  have c6' : 2 ^ i ≤ 64 := c6
  have ab : ¬ 12 * q.2 < (if q.1 < 0 then -q.1 else q.1) := by split <;> omega
  unfold t_number_game
  repeat kaf_suf
  refine ⟨rfl, _, q, rfl, fv, pos, by omega, fun bb hb1 hb2 => ?_⟩
  obtain rfl := hb1 ⟨i, nq.le, bt⟩
  repeat kaf_suf
  refine ⟨rfl, b, M, gs, ds, _, q, i, rfl, B, fv, nq, by have := nq.le; omega, by omega, fun H1 f e g k1 B1 fl ng => ?_⟩
  repeat kaf_suf
  exact k H1 f e g k1 B1 (by omega) ng
def sy_number_game (c : Cn) : Sp := fun vs H Q E => vs.length = 2 ∧ ∃ (b v : V) (q : Fr), vs = [b, v] ∧ FrV H v q ∧ 0 < q.2 ∧ BadF q ∧ E (.ref c.cNoNumber) none H
theorem q_number_game {c : Cn} {mg : Str → Option Value} (T : Txt c mg) {vs : List V} {H : Hp} {Q : VK} {E : XK} (h : sy_number_game c vs H Q E) : t_number_game c E { nx := fun _ H' => Q .non H', rt := Q } (start N_number_game vs) H := by
  obtain ⟨_, b, v, q, rfl, fv, pos, bad, k⟩ := h
  obtain ⟨t, rfl, et⟩ := id fv
  unfold t_number_game
  repeat kaf_suf
  by_cases z : q.2 > 64
  · refine r_iteT' z ?_
    repeat kaf_suf
    exact k
  · refine r_iteF' z ?_
    repeat kaf_suf
    refine ⟨rfl, _, q, rfl, fv, pos, by omega, fun bb hb1 hb2 => ?_⟩
    rcases bad with bad | ⟨_, bad⟩ | ⟨ok, bad⟩
    · exact absurd bad z
    · obtain rfl := hb2 bad
      repeat kaf_suf
      exact k
    · obtain rfl := hb1 ok
      have ab : 12 * q.2 < (if q.1 < 0 then -q.1 else q.1) := by split <;> omega
      repeat kaf_suf
      exact k
def sx_number_game (c : Cn) : Sp := fun vs H Q E => vs.length = 2 ∧ (sp_number_game c vs H Q E ∨ sy_number_game c vs H Q E)
theorem calx_number_game {c : Cn} {mg : Str → Option Value} {base : Heap} (T : Txt c mg) : Cal c.P c.w c.K mg base (L2.CX c.P c.w) 13 "number_game" (sx_number_game c) := by
  obtain ⟨f, fd, F, g, b⟩ := T.F_number_game
  exact ⟨f, fd, ["book", "q"], F.okX (k := 12) (N := N_number_game) sc_number_game (fun vs H Q E h => h.1) (fun cdv A outer s H vs Q E hr h => ⟨t_number_game c E, by
  exact (pss_cons (ps_if (PW.pt (pw_or (pt_cmpR o_gt (pe_ix (x_ix (hu64 hr)) (pv 1) pe_int (fun _ _ => rfl)) (C8.pe_gc rfl (gint T.g_GREATEST_BOTTOM)) (nomark _)) (pw_or (pt_not (p_tru (e_call (cal_is_bound T) hr (by decide) pass0 rfl (pa_cons (pv 1) pa_nil)))) (pw_or1 (pt_cmpR o_gt (pe_callB k_abs (by rfl) T.n_abs (by decide +kernel) (pa_cons (pe_ix (x_ix (hu64 hr)) (pv 1) pe_int (fun _ _ => rfl)) pa_nil)) (pe_op o_mul (C8.pe_gc rfl (gint T.g_GREATEST)) (pe_ix (x_ix (hu64 hr)) (pv 1) pe_int (fun _ _ => rfl))) (nomark _)))))) (pss_one (ps_raiseC rfl (takes_of rfl rfl rfl rfl) T.x_NoNumber rfl)) pss_nil)
  (pss_one (ps_ret (e_call (cal_put_number T 7) hr (by decide) pass0 rfl (pa_cons (pv 0) (pa_cons (pv 1) pa_nil)))))), h.2.elim (p_number_game T) (q_number_game T)⟩), g, F.kp, b⟩
theorem cal_number_game {c : Cn} {mg : Str → Option Value} {base : Heap} (T : Txt c mg) : Cal c.P c.w c.K mg base (L2.CX c.P c.w) 13 "number_game" (sp_number_game c) := by
  obtain ⟨f, fd, ps, F, g, kp, b⟩ := (calx_number_game T).ex
  exact ⟨⟨f, fd, ps, F.imp fun vs H Q E h => ⟨h.1, .inl h⟩, g, kp, b⟩⟩

/-! a dict of what is known, by fractions -/
theorem pk_ne {p q : Fr} (h : ¬ p = q) : ¬ pk p = pk q := fun z => h (pk_inj z)
theorem keysF {kvs : List TX} {ks : List Fr} (e : kvs.map (·.1) = ks.map pk) (z : Fr) : (valV kvs (pk z)).isSome = decide (z ∈ ks) := by
  rw [← valV_any]
  have : (kvs.any fun kv => decide (kv.1 = pk z)) = (kvs.map (·.1)).any fun k => decide (k = pk z) := by rw [List.any_map]; rfl
  rw [this, e, List.any_map]
  by_cases h : z ∈ ks
  · rw [decide_eq_true h]
    exact List.any_eq_true.mpr ⟨z, h, by simp⟩
  · rw [decide_eq_false h]
    exact List.any_eq_false.mpr fun y hy => by
      simp only [Function.comp, decide_eq_true_eq]
      intro q; exact h (pk_inj q ▸ hy)
theorem putT_new {kvs : List TX} {k : List L2.Key} {v : V} (h : valV kvs k = none) : putK kvs k v = kvs ++ [(k, v)] := by
  have n : (kvs.any fun kv => decide (kv.1 = k)) = false := by rw [valV_any, h]; rfl
  unfold putK
  rw [if_neg (by rw [n]; simp)]
def KnF (P : Fr → Nat → Prop) (kvs : List TX) (ks : List Fr) : Prop := kvs.map (·.1) = ks.map pk ∧ ∀ q ∈ ks, ∃ g : Nat, valV kvs (pk q) = some (.int g) ∧ P q g
def addQ (ks : List Fr) (q : Fr) : List Fr := if q ∈ ks then ks else ks ++ [q]
theorem addQ_mem {ks : List Fr} {q r : Fr} : r ∈ addQ ks q ↔ r ∈ ks ∨ r = q := by
  unfold addQ
  split
  · rename_i h
    exact ⟨.inl, fun z => z.elim id fun z => z ▸ h⟩
  · rw [List.mem_append, List.mem_singleton]
theorem keys_put {kvs : List TX} {ks : List Fr} (h : kvs.map (·.1) = ks.map pk) (q : Fr) (v : V) : (putK kvs (pk q) v).map (·.1) = (addQ ks q).map pk := by
  have hk := keysF h q
  unfold putK addQ
  rw [valV_any, hk]
  by_cases m : q ∈ ks
  · rw [decide_eq_true m, if_pos rfl, if_pos m, ← h, List.map_map]
    refine List.map_congr_left fun x _ => ?_
    show (if x.1 = pk q then (x.1, v) else x).1 = x.1
    split <;> rfl
  · rw [decide_eq_false m, if_neg (fun z => by cases z), if_neg m, List.map_append, List.map_append, h]
    rfl
theorem KnF.put {P : Fr → Nat → Prop} {kvs : List TX} {ks : List Fr} (h : KnF P kvs ks) {q : Fr} {g : Nat} (p : P q g) : KnF P (putK kvs (pk q) (.int g)) (addQ ks q) := by
  refine ⟨keys_put h.1 q _, fun r hr => ?_⟩
  rw [valV_put]
  by_cases z : r = q
  · subst z
    exact ⟨g, if_pos rfl, p⟩
  · rw [if_neg (pk_ne z)]
    exact h.2 r ((addQ_mem.mp hr).resolve_right z)
def allQ : List Fr := (List.range 7).flatMap fun j => (List.range (24 * 2 ^ j + 1)).map fun (n : Nat) => (((n : Int) - 12 * 2 ^ j, (2 : Int) ^ j) : Fr)
theorem allQ_len : allQ.length = 3055 := by decide +kernel
theorem nmQ_all {i : Nat} {q : Fr} (h : NmQ i q) : q ∈ allQ := by
  refine List.mem_flatMap.mpr ⟨i, List.mem_range.mpr (by have := h.le; omega), List.mem_map.mpr ⟨(q.1 + 12 * 2 ^ i).toNat, List.mem_range.mpr ?_, ?_⟩⟩
  · have l := h.lo
    have u := h.hi
    obtain ⟨N, hN⟩ : ∃ N : Nat, 2 ^ i = N := ⟨_, rfl⟩
    have e : (2 : Int) ^ i = (N : Int) := by
      rw [← hN, Int.natCast_pow]; rfl
    rw [e] at l u ⊢
    rw [hN]
    omega
  · have := h.lo
    refine Prod.ext ?_ h.bot.symm
    show (((q.1 + 12 * 2 ^ i).toNat : Nat) : Int) - 12 * 2 ^ i = q.1
    omega
structure KnAt (H : Hp) (d : Addr) (gs : List Gm) (ks : List Fr) : Prop where
  ex : ∃ kvs : List TX, H d = some (.dT kvs) ∧ KnF (NumG gs) kvs ks
  nd : ks.Nodup
  nm : ∀ q ∈ ks, ∃ i, NmQ i q
theorem KnAt.few {H : Hp} {d : Addr} {gs : List Gm} {ks : List Fr} (K : KnAt H d gs ks) : ks.length ≤ 3055 := by
  have := nodup_le ks allQ K.nd fun q hq => by
    obtain ⟨i, h⟩ := K.nm q hq
    exact nmQ_all h
  rw [allQ_len] at this
  exact this
theorem KnAt.keep {H H' : Hp} {d : Addr} {gs : List Gm} {ks : List Fr} {N : Addr → Prop} (K : KnAt H d gs ks) (k : Keep N H H') (n : ¬ N d) : KnAt H' d gs ks := by
  obtain ⟨kvs, e, h⟩ := K.ex
  exact ⟨⟨kvs, k.get n e, h⟩, K.nd, K.nm⟩
theorem KnAt.more {H : Hp} {d : Addr} {gs f : List Gm} {ks : List Fr} (K : KnAt H d gs ks) : KnAt H d (gs ++ f) ks := by
  obtain ⟨kvs, e, h⟩ := K.ex
  exact ⟨⟨kvs, e, h.1, fun q hq => by obtain ⟨g, a, b⟩ := h.2 q hq; exact ⟨g, a, b.more⟩⟩, K.nd, K.nm⟩
theorem KnAt.nM {c : Cn} {H : Hp} {d b : Addr} {M : Addr → Prop} {gs gs' : List Gm} {ds : List Int} {ks : List Fr} (K : KnAt H d gs' ks) (B : BookAt c H b M gs ds) : ¬ M d := fun z => by
  obtain ⟨kvs, e, _⟩ := K.ex
  rcases B.cell z with ⟨l, h⟩ | ⟨φ, h⟩ <;> rw [e] at h <;> cases h
theorem KnAt.nin {P : Program} {w : World} {K : PySem.W.Frag} {H : Hp} {Q : VK} {d p : Addr} {gs : List Gm} {ks : List Fr} {q : Fr} (k : KnAt H d gs ks) (ep : H p = some (.tup [.int q.1, .int q.2])) (h : Q (.bl (!decide (q ∈ ks))) H) : cNotIn P w K (.ref p) (.ref d) H Q := by
  obtain ⟨kvs, e, kf⟩ := k.ex
  exact .inr (.inr (.inr (.inl ⟨d, _, rfl, DGet.t (k := pk q) e ep, by rw [keysF kf.1]; simpa using h⟩)))
theorem KnAt.ix {P : Program} {w : World} {K : PySem.W.Frag} {H : Hp} {Q : VK} {d p : Addr} {gs : List Gm} {ks : List Fr} {q : Fr} (k : KnAt H d gs ks) (ep : H p = some (.tup [.int q.1, .int q.2])) (m : q ∈ ks) (h : ∀ g : Nat, NumG gs q g → Q (.int g) H) : bIx P w K (.ref d) (.ref p) H Q := by
  obtain ⟨kvs, e, kf⟩ := k.ex
  obtain ⟨g, h1, h2⟩ := kf.2 q m
  exact .inr (.inr (.inr (.inl ⟨d, _, rfl, h1 ▸ DGet.t (k := pk q) e ep, h g h2⟩)))
theorem KnAt.set {P : Program} {w : World} {H : Hp} {Q : Hp → Prop} {d p : Addr} {gs : List Gm} {ks : List Fr} {q : Fr} {i g : Nat} (k : KnAt H d gs ks) (ep : H p = some (.tup [.int q.1, .int q.2])) (m : NmQ i q) (ng : NumG gs q g) (h : ∀ o, (upd H d o) d = some o → KnAt (upd H d o) d gs (addQ ks q) → Q (upd H d o)) : bSet P w (.ref d) (.ref p) (.int g) H Q := by
  obtain ⟨kvs, e, kf⟩ := k.ex
  have fw := k.few
  have len : kvs.length = ks.length := by
    have := congrArg List.length kf.1
    rw [List.length_map, List.length_map] at this
    exact this
  refine .inr (.inl ⟨d, _, rfl, DPut.t (k := pk q) e ep (by rw [len, sizeLine_eq]; omega), h _ upd_same ⟨⟨_, upd_same, kf.put ng⟩, ?_, fun r hr => ?_⟩⟩)
  · unfold addQ
    split
    · exact k.nd
    · rename_i n
      refine List.nodup_append.mpr ⟨k.nd, List.nodup_cons.mpr ⟨List.not_mem_nil, List.nodup_nil⟩, fun a ha b hb => ?_⟩
      cases List.mem_singleton.mp hb
      exact fun z => n (z ▸ ha)
  · rcases addQ_mem.mp hr with hr | hr
    · exact k.nm r hr
    · subst hr
      exact ⟨i, m⟩

abbrev N_law_whole : List Str := ["found"]
theorem sc_law_whole : FnScope N_law_whole ["found"] (defScope s_law_whole) := ⟨rfl, rfl, rfl, by decide +kernel, rfl, by decide +kernel, by decide +kernel⟩
def t_law_whole (c : Cn) : TS :=
  (tRet (tAndV (tCB (rIsi c.K) (tCons (tVar 0) (tCons (tC (.ty "int")) tNil))) (tNotV (tCB (rIsi c.K) (tCons (tVar 0) (tCons (tC (.ty "bool")) tNil))))))
def sp_law_whole (c : Cn) : Sp := fun vs H Q E => vs.length = 1 ∧ ∃ x : Int, vs = [.int x] ∧ Q (.bl true) H
theorem p_law_whole {c : Cn} {mg : Str → Option Value} (T : Txt c mg) {vs : List V} {H : Hp} {Q : VK} {E : XK} (h : sp_law_whole c vs H Q E) : t_law_whole c { nx := fun _ H' => Q .non H', rt := Q } (start N_law_whole vs) H := by
  obtain ⟨_, x, rfl, k⟩ := h
  unfold t_law_whole
  repeat kaf_suf
  exact k
theorem cal_law_whole {c : Cn} {mg : Str → Option Value} {base : Heap} (T : Txt c mg) : Cal c.P c.w c.K mg base CX0 1 "_law_whole" (sp_law_whole c) := by
  obtain ⟨f, fd, F, g, b⟩ := T.F_law_whole
  exact ⟨f, fd, ["found"], F.ok (k := 0) (N := N_law_whole) sc_law_whole (fun vs H Q E h => h.1) (fun cdv A outer s H vs Q E hr h => ⟨t_law_whole c, by
  exact (pss_one (ps_ret (pe_and (pe_callB k_isi (by rfl) T.n_isinstance (by decide +kernel) (pa_cons (pv 0) (pa_cons (pe_bltn rfl T.n_int (by decide +kernel) rfl) pa_nil))) (pe_one (pe_not (pe_callB k_isi (by rfl) T.n_isinstance (by decide +kernel) (pa_cons (pv 0) (pa_cons (pe_bltn rfl T.n_bool (by decide +kernel) rfl) pa_nil)))))))), p_law_whole T h⟩), g, F.kp, b⟩
theorem pow2_half (i : Nat) : (2 : Int) ^ (i + 1) / 2 = 2 ^ i := by rw [Int.pow_succ]; omega
abbrev N_law_halved : List Str := ["top", "bottom"]
theorem sc_law_halved : FnScope N_law_halved ["top", "bottom"] (defScope s_law_halved) := ⟨rfl, rfl, rfl, by decide +kernel, rfl, by decide +kernel, by decide +kernel⟩
def t_law_halved (c : Cn) : TS :=
  (tSeq (tWhile (tAnd (tTest (tOp cGt (tVar 1) (tC (.int 1)))) (tTest (tOp (cEq c.K) (tOp bMod (tVar 0) (tC (.int 2))) (tC (.int 0)))))
  (tSeq (tAsg (tOp bDiv (tVar 0) (tC (.int 2))) (gName 0))
  (tAsg (tOp bDiv (tVar 1) (tC (.int 2))) (gName 1))))
  (tRet (tTup (tCons (tVar 0) (tCons (tVar 1) tNil)))))
def sp_law_halved (c : Cn) : Sp := fun vs H Q E => vs.length = 2 ∧ ∃ (t : Int) (j : Nat), vs = [.int t, .int (2 ^ j)] ∧ ∀ p, H p = none → Q (.ref p) (upd H p (.tup [.int (red j t).1, .int (red j t).2]))
theorem p_law_halved {c : Cn} {mg : Str → Option Value} (T : Txt c mg) {vs : List V} {H : Hp} {Q : VK} {E : XK} (h : sp_law_halved c vs H Q E) : t_law_halved c { nx := fun _ H' => Q .non H', rt := Q } (start N_law_halved vs) H := by
  obtain ⟨_, t, j, rfl, k⟩ := h
  unfold t_law_halved
  repeat kaf_suf
  refine ⟨fun m σ H' => ∃ t' : Int, σ = [some (.int t'), some (.int (2 ^ m))] ∧ H' = H ∧ red m t' = red j t, ⟨j, t, rfl, rfl, rfl⟩, ?_⟩
  rintro i σ H' ⟨t', rfl, rfl, er⟩
  have last : (i = 0 ∨ ¬ t' % 2 = 0) → red i t' = (t', 2 ^ i) := fun z => by
    cases i with
    | zero => rfl
    | succ i => exact if_neg (z.resolve_left (by omega))
  repeat kaf_suf
  refine r_ite (fun p => ?_) (fun p => ?_)
  · repeat kaf_suf
    refine r_ite (fun p2 => ?_) (fun p2 => ?_)
    · cases i with
      | zero => exact absurd p (by decide)
      | succ i =>
        refine ⟨fun σ' H'' => σ' = [some (.int (t' / 2)), some (.int (2 ^ i))] ∧ H'' = H', fun σ' H'' ⟨h1, h2⟩ => ⟨i, Nat.lt_succ_self i, t' / 2, h1, h2, ?_⟩, ?_⟩
        · rw [← er]
          exact (if_pos p2).symm
        · repeat kaf_suf
          rw [pow2_half]
          exact ⟨rfl, rfl⟩
    · repeat kaf_suf
      intro p1 hp1
      have e := last (.inr p2)
      have := k p1 hp1
      rw [← er, e] at this
      exact this
  · repeat kaf_suf
    intro p1 hp1
    have i0 : i = 0 := by
      cases i with
      | zero => rfl
      | succ i =>
        have : (1 : Int) < 2 ^ (i + 1) := by rw [Int.pow_succ]; have : (0 : Int) < 2 ^ i := Int.pow_pos (by decide); omega
        exact absurd this p
    have e := last (.inl i0)
    have := k p1 hp1
    rw [← er, e] at this
    exact this
theorem cal_law_halved {c : Cn} {mg : Str → Option Value} {base : Heap} (T : Txt c mg) : Cal c.P c.w c.K mg base CX0 1 "_law_halved" (sp_law_halved c) := by
  obtain ⟨f, fd, F, g, b⟩ := T.F_law_halved
  exact ⟨f, fd, ["top", "bottom"], F.ok (k := 0) (N := N_law_halved) sc_law_halved (fun vs H Q E h => h.1) (fun cdv A outer s H vs Q E hr h => ⟨t_law_halved c, by
  exact (pss_cons (ps_while PassesOwn.never (PW.pt (pw_and (pt_cmpR o_gt (pv 1) pe_int (nomark _)) (pw_and1 (pt_cmpR (o_eq (hu64 hr)) (pe_op o_mod (pv 0) pe_int) pe_int (nomark _)))))
  (pss_cons (ps_set (i := 0) sc_law_halved.nd rfl (Or.inl rfl) (pe_op o_div (pv 0) pe_int))
  (pss_one (ps_set (i := 1) sc_law_halved.nd rfl (Or.inl rfl) (pe_op o_div (pv 1) pe_int)))))
  (pss_one (ps_ret (pe_tup (pa_cons (pv 0) (pa_cons (pv 1) pa_nil)))))), p_law_halved T h⟩), g, F.kp, b⟩
theorem StA.keep {H H' : Hp} {a : Addr} (s : StA H a) (k : Keep Nil H H') : StA H' a := by
  obtain ⟨g, z, n, e, h⟩ := s
  exact ⟨g, z, n, k.get (fun z => z) e, h⟩
theorem StA.ne {H : Hp} {a l : Addr} (s : StA H a) (h : H l = none) : ¬ l = a := fun z => by
  obtain ⟨_, _, _, e, _⟩ := s
  rw [← z, h] at e; cases e
abbrev N_law_bound : List Str := ["store", "most", "deepest", "bottom"]
theorem sc_law_bound : FnScope N_law_bound ["store", "most", "deepest"] (defScope s_law_bound) := ⟨rfl, rfl, rfl, by decide +kernel, rfl, by decide +kernel, by decide +kernel⟩
def t_law_bound (c : Cn) : TS :=
  (tSeq (tAsg (tOp (bIx c.P c.w c.K) (tLst (tCons (tC (.int 1)) (tCons (tC (.int 2)) (tCons (tC (.int 4)) (tCons (tC (.int 8)) (tCons (tC (.int 16)) (tCons (tC (.int 32)) (tCons (tC (.int 64)) tNil)))))))) (tCall (sp_law_take c) [] E0 (tCons (tVar 0) (tCons (tOp (bAdd c.K) (tVar 2) (tC (.int 1))) tNil)))) (gName 3))
  (tRet (tCall (sp_law_halved c) [] E0 (tCons (tOp bSub (tCall (sp_law_take c) [] E0 (tCons (tVar 0) (tCons (tOp (bAdd c.K) (tOp bMul (tOp bMul (tC (.int 2)) (tVar 1)) (tVar 3)) (tC (.int 1))) tNil))) (tOp bMul (tVar 1) (tVar 3))) (tCons (tVar 3) tNil)))))
def sp_law_bound (c : Cn) : Sp := fun vs H Q E => vs.length = 3 ∧ ∃ (a : Addr), vs = [.ref a, .int 12, .int 6] ∧ StA H a ∧ ∀ (H' : Hp) (v : V) (q : Fr) (i : Nat), Keep (fun y => y = a) H H' → StA H' a → FrV H' v q → NmQ i q → Q v H'
theorem p_law_bound {c : Cn} {mg : Str → Option Value} (T : Txt c mg) {vs : List V} {H : Hp} {Q : VK} {E : XK} (h : sp_law_bound c vs H Q E) : t_law_bound c { nx := fun _ H' => Q .non H', rt := Q } (start N_law_bound vs) H := by
  obtain ⟨_, a, rfl, st, k⟩ := h
  unfold t_law_bound
  repeat kaf_suf
  intro l hl
  have kl := Keep.alloc (M := Nil) (o := .lst [.int 1, .int 2, .int 4, .int 8, .int 16, .int 32, .int 64]) hl
  repeat kaf_suf
  refine ⟨rfl, a, _, rfl, st.keep kl, by decide, w10 _ (by decide) (by decide), fun H3 z k3 st3 z0 z1 => ?_⟩
  obtain ⟨j, rfl⟩ := Int.eq_ofNat_of_zero_le z0
  have hj : j ≤ 6 := by omega
  have hx : atI [V.int 1, .int 2, .int 4, .int 8, .int 16, .int 32, .int 64] (j : Int) = some (.int (2 ^ j)) := by
    have : j = 0 ∨ j = 1 ∨ j = 2 ∨ j = 3 ∨ j = 4 ∨ j = 5 ∨ j = 6 := by omega
    rcases this with rfl | rfl | rfl | rfl | rfl | rfl | rfl <;> rfl
  obtain ⟨b1, b2⟩ := two_pow_le hj
  have el : H3 l = some (.lst [.int 1, .int 2, .int 4, .int 8, .int 16, .int 32, .int 64]) := k3.get (st.ne hl) upd_same
  have kk := kl.weak.trans k3
  clear kl k3
  repeat kaf_suf
  refine ⟨rfl, a, _, rfl, st3, by omega, ?_, fun H4 u k4 st4 u0 u1 => ?_⟩
  · refine Wd.mono (m := 20) ?_ (by decide)
    show (2 * 12 * (2 : Int) ^ j + 1).natAbs < 2 ^ 20
    omega
  repeat kaf_suf
  refine ⟨rfl, _, j, rfl, fun p hp => ?_⟩
  obtain ⟨i, _, nq⟩ := nmQ_red (j := j) (t := u - 12 * 2 ^ j) hj (by omega) (by omega)
  repeat kaf_suf
  exact k _ _ _ i ((kk.trans k4).new hp) (st4.keep (Keep.alloc hp)) ⟨p, rfl, upd_same⟩ nq
theorem cal_law_bound {c : Cn} {mg : Str → Option Value} {base : Heap} (T : Txt c mg) : Cal c.P c.w c.K mg base CX0 2 "_law_bound" (sp_law_bound c) := by
  obtain ⟨f, fd, F, g, b⟩ := T.F_law_bound
  exact ⟨f, fd, ["store", "most", "deepest"], F.ok (k := 1) (N := N_law_bound) sc_law_bound (fun vs H Q E h => h.1) (fun cdv A outer s H vs Q E hr h => ⟨t_law_bound c, by
  exact (pss_cons (ps_set (i := 3) sc_law_bound.nd rfl (Or.inl rfl) (pe_ix (x_ix (hu64 hr)) (pe_lst (pa_cons pe_int (pa_cons pe_int (pa_cons pe_int (pa_cons pe_int (pa_cons pe_int (pa_cons pe_int (pa_cons pe_int pa_nil)))))))) (e_call (cal_law_take T) hr (by decide) pass0 rfl (pa_cons (pv 0) (pa_cons (pe_op o_add (pv 2) pe_int) pa_nil))) (fun _ _ => rfl)))
  (pss_one (ps_ret (e_call (cal_law_halved T) hr (by decide) pass0 rfl (pa_cons (pe_op o_sub (e_call (cal_law_take T) hr (by decide) pass0 rfl (pa_cons (pv 0) (pa_cons (pe_op o_add (pe_op o_mul (pe_op o_mul pe_int (pv 1)) (pv 3)) pe_int) pa_nil))) (pe_op o_mul (pv 1) (pv 3))) (pa_cons (pv 3) pa_nil)))))), p_law_bound T h⟩), g, F.kp, b⟩
def DueAt (H : Hp) (l : Addr) : Option Fr → Prop
  | none => H l = some (.lst [])
  | some r => ∃ u, H l = some (.lst [.ref u]) ∧ H u = some (.tup [.int r.1, .int r.2])
theorem DueAt.keep {H H' : Hp} {l : Addr} {o : Option Fr} (d : DueAt H l o) (k : Keep Nil H H') : DueAt H' l o := by
  cases o with
  | none => exact k.get (fun z => z) d
  | some r => obtain ⟨u, h1, h2⟩ := d; exact ⟨u, k.get (fun z => z) h1, k.get (fun z => z) h2⟩
theorem due_whole {q : Fr} (h : NmQ 0 q) : (q.1 > 0 → dueL q = some (q.1 - 1, 1) ∧ dueR q = none) ∧ (q.1 < 0 → dueL q = none ∧ dueR q = some (q.1 + 1, 1)) ∧ (q.1 = 0 → dueL q = none ∧ dueR q = none) := by
  obtain ⟨e, _, _⟩ := h.whole
  have n : ¬ q.2 > 1 := by omega
  unfold dueL dueR
  refine ⟨fun p => ?_, fun p => ?_, fun p => ?_⟩
  · rw [if_neg n, if_neg n, if_pos p, if_pos p]; exact ⟨rfl, rfl⟩
  · rw [if_neg n, if_neg n, if_neg (by omega), if_neg (by omega), if_pos p]; exact ⟨rfl, rfl⟩
  · rw [if_neg n, if_neg n, if_neg (by omega), if_neg (by omega), if_neg (by omega)]; exact ⟨rfl, rfl⟩
abbrev N_law_due : List Str := ["q", "top", "bottom"]
theorem sc_law_due : FnScope N_law_due ["q"] (defScope s_law_due) := ⟨rfl, rfl, rfl, by decide +kernel, rfl, by decide +kernel, by decide +kernel⟩
def t_law_due (c : Cn) : TS :=
  (tSeq (tAsg (tVar 0) (gSeq c.K 2 (gCons (gName 1) (gCons (gName 2) gNil))))
  (tSeq (tIfS (tTest (tOp cGt (tVar 2) (tC (.int 1))))
  (tRet (tTup (tCons (tLst (tCons (tCall (sp_law_halved c) [] E0 (tCons (tOp bSub (tVar 1) (tC (.int 1))) (tCons (tVar 2) tNil))) tNil)) (tCons (tLst (tCons (tCall (sp_law_halved c) [] E0 (tCons (tOp (bAdd c.K) (tVar 1) (tC (.int 1))) (tCons (tVar 2) tNil))) tNil)) tNil))))
  tNext)
  (tSeq (tIfS (tTest (tOp cGt (tVar 1) (tC (.int 0))))
  (tRet (tTup (tCons (tLst (tCons (tTup (tCons (tOp bSub (tVar 1) (tC (.int 1))) (tCons (tC (.int 1)) tNil))) tNil)) (tCons (tLst tNil) tNil))))
  tNext)
  (tSeq (tIfS (tTest (tOp (cLt c.K) (tVar 1) (tC (.int 0))))
  (tRet (tTup (tCons (tLst tNil) (tCons (tLst (tCons (tTup (tCons (tOp (bAdd c.K) (tVar 1) (tC (.int 1))) (tCons (tC (.int 1)) tNil))) tNil)) tNil))))
  tNext)
  (tRet (tTup (tCons (tLst tNil) (tCons (tLst tNil) tNil))))))))
def sp_law_due (c : Cn) : Sp := fun vs H Q E => vs.length = 1 ∧ ∃ (v : V) (q : Fr) (i : Nat), vs = [v] ∧ FrV H v q ∧ NmQ i q ∧ ∀ (H' : Hp) (p l1 l2 : Addr), Keep Nil H H' → H l1 = none → H l2 = none → H' p = some (.tup [.ref l1, .ref l2]) → DueAt H' l1 (dueL q) → DueAt H' l2 (dueR q) → Q (.ref p) H'
theorem p_law_due {c : Cn} {mg : Str → Option Value} (T : Txt c mg) {vs : List V} {H : Hp} {Q : VK} {E : XK} (h : sp_law_due c vs H Q E) : t_law_due c { nx := fun _ H' => Q .non H', rt := Q } (start N_law_due vs) H := by
  obtain ⟨_, v, q, i, rfl, fv, nq, k⟩ := h
  obtain ⟨t, rfl, et⟩ := id fv
  unfold t_law_due
  by_cases z : i = 0
  · subst z
    obtain ⟨e1, lo, hi⟩ := nq.whole
    have n1 : ¬ 1 < q.2 := by omega
    obtain ⟨d1, d2, d3⟩ := due_whole nq
    repeat kaf_suf
    by_cases p : 0 < q.1
    · obtain ⟨eL, eR⟩ := d1 p
      rw [eL, eR] at k
      repeat kaf_suf
      intro u hu
      repeat kaf_suf
      intro a1 ha1
      repeat kaf_suf
      intro a2 ha2
      repeat kaf_suf
      intro a3 ha3
      have k1 := Keep.alloc (M := Nil) (o := .tup [.int (q.1 - 1), .int 1]) hu
      have k2 := k1.new (o := .lst [.ref u]) ha1
      refine k _ a3 a1 a2 (((k1.new ha1).new ha2).new ha3) (keep_none k1 ha1) (keep_none k2 ha2) upd_same ⟨u, by kaf_pre, by kaf_pre⟩ (get_new ha3 upd_same)
    · repeat kaf_suf
      by_cases p' : q.1 < 0
      · obtain ⟨eL, eR⟩ := d2 p'
        rw [eL, eR] at k
        repeat kaf_suf
        intro a1 ha1
        repeat kaf_suf
        intro u hu
        repeat kaf_suf
        intro a2 ha2
        repeat kaf_suf
        intro a3 ha3
        have k1 := Keep.alloc (M := Nil) (o := .lst []) ha1
        have k2 := k1.new (o := .tup [.int (q.1 + 1), .int 1]) hu
        refine k _ a3 a1 a2 ((k2.new ha2).new ha3) ha1 (keep_none k2 ha2) upd_same (show _ = _ by kaf_pre) ⟨u, by kaf_pre, by kaf_pre⟩
      · obtain ⟨eL, eR⟩ := d3 (by omega)
        rw [eL, eR] at k
        repeat kaf_suf
        intro a1 ha1
        repeat kaf_suf
        intro a2 ha2
        repeat kaf_suf
        intro a3 ha3
        have k1 := Keep.alloc (M := Nil) (o := .lst []) ha1
        exact k _ a3 a1 a2 ((k1.new ha2).new ha3) ha1 (keep_none k1 ha2) upd_same (show _ = _ by kaf_pre) (show _ = _ by kaf_pre)
  · have big : 1 < q.2 := nq.big z
    obtain ⟨eL, eR⟩ := nq.due z
    rw [eL, eR] at k
    have eb := nq.bot
    repeat kaf_suf
    rw [eb]
    refine ⟨rfl, _, i, rfl, fun u1 hu1 => ?_⟩
    have k1 := Keep.alloc (M := Nil) (o := .tup [.int (red i (q.1 - 1)).1, .int (red i (q.1 - 1)).2]) hu1
    repeat kaf_suf
    intro a1 ha1
    have k2 := k1.new (o := .lst [.ref u1]) ha1
    repeat kaf_suf
    refine ⟨rfl, _, i, rfl, fun u2 hu2 => ?_⟩
    have k3 := k2.new (o := .tup [.int (red i (q.1 + 1)).1, .int (red i (q.1 + 1)).2]) hu2
    repeat kaf_suf
    intro a2 ha2
    have k4 := k3.new (o := .lst [.ref u2]) ha2
    repeat kaf_suf
    intro a3 ha3
    have k5 := k4.new (o := .tup [.ref a1, .ref a2]) ha3
    exact k _ a3 a1 a2 k5 (keep_none k1 ha1) (keep_none k3 ha2) upd_same ⟨u1, by kaf_pre, by kaf_pre⟩ ⟨u2, by kaf_pre, by kaf_pre⟩
theorem cal_law_due {c : Cn} {mg : Str → Option Value} {base : Heap} (T : Txt c mg) : Cal c.P c.w c.K mg base CX0 2 "_law_due" (sp_law_due c) := by
  obtain ⟨f, fd, F, g, b⟩ := T.F_law_due
  exact ⟨f, fd, ["q"], F.ok (k := 1) (N := N_law_due) sc_law_due (fun vs H Q E h => h.1) (fun cdv A outer s H vs Q E hr h => ⟨t_law_due c, by
  exact (pss_cons (ps_asg (pv 0) (g_seq rfl (pgs_cons (pg_name (i := 1) sc_law_due.nd rfl (Or.inl rfl)) (pgs_cons (pg_name (i := 2) sc_law_due.nd rfl (Or.inl rfl)) pgs_nil))))
  (pss_cons (ps_if (pt_cmpR o_gt (pv 2) pe_int (nomark _)) (pss_one (ps_ret (pe_tup (pa_cons (pe_lst (pa_cons (e_call (cal_law_halved T) hr (by decide) pass0 rfl (pa_cons (pe_op o_sub (pv 1) pe_int) (pa_cons (pv 2) pa_nil))) pa_nil)) (pa_cons (pe_lst (pa_cons (e_call (cal_law_halved T) hr (by decide) pass0 rfl (pa_cons (pe_op o_add (pv 1) pe_int) (pa_cons (pv 2) pa_nil))) pa_nil)) pa_nil))))) pss_nil)
  (pss_cons (ps_if (pt_cmpR o_gt (pv 1) pe_int (nomark _)) (pss_one (ps_ret (pe_tup (pa_cons (pe_lst (pa_cons (pe_tup (pa_cons (pe_op o_sub (pv 1) pe_int) (pa_cons pe_int pa_nil))) pa_nil)) (pa_cons (pe_lst pa_nil) pa_nil))))) pss_nil)
  (pss_cons (ps_if (pt_cmpR (o_lt (hu64 hr)) (pv 1) pe_int (nomark _)) (pss_one (ps_ret (pe_tup (pa_cons (pe_lst pa_nil) (pa_cons (pe_lst (pa_cons (pe_tup (pa_cons (pe_op o_add (pv 1) pe_int) (pa_cons pe_int pa_nil))) pa_nil)) pa_nil))))) pss_nil)
  (pss_one (ps_ret (pe_tup (pa_cons (pe_lst pa_nil) (pa_cons (pe_lst pa_nil) pa_nil))))))))), p_law_due T h⟩), g, F.kp, b⟩

/-! numbers' games by hand -/
def cst (i : Nat) (q : Fr) : Nat := if i = 0 then q.1.natAbs + 2 else 16 * 2 ^ i
def rk (i : Nat) (q : Fr) : Nat := if i = 0 then q.1.natAbs else 12 + i
theorem cst_le {i : Nat} {q : Fr} (h : NmQ i q) : cst i q ≤ 16 * 2 ^ i := by
  unfold cst
  split
  · rename_i z
    subst z
    obtain ⟨_, a, b⟩ := h.whole
    show q.1.natAbs + 2 ≤ 16
    omega
  · exact Nat.le_refl _
/-- what is due is less far -/
theorem due_less {i : Nat} {q r : Fr} (h : NmQ i q) (e : dueL q = some r ∨ dueR q = some r) : ∃ k, NmQ k r ∧ rk k r < rk i q := by
  by_cases z : i = 0
  · subst z
    obtain ⟨e1, lo, hi⟩ := h.whole
    obtain ⟨d1, d2, d3⟩ := due_whole h
    have hr : ∃ t : Int, r = (t, 1) ∧ t.natAbs < q.1.natAbs := by
      rcases Int.lt_trichotomy q.1 0 with s | s | s
      · obtain ⟨a, b⟩ := d2 s
        rw [a, b] at e
        rcases e with e | e <;> cases e
        exact ⟨_, rfl, by omega⟩
      · obtain ⟨a, b⟩ := d3 s
        rw [a, b] at e
        rcases e with e | e <;> cases e
      · obtain ⟨a, b⟩ := d1 s
        rw [a, b] at e
        rcases e with e | e <;> cases e
        exact ⟨_, rfl, by omega⟩
    obtain ⟨t, rfl, lt⟩ := hr
    exact ⟨0, nmQ_int (by omega) (by omega), lt⟩
  · obtain ⟨a, b⟩ := h.due z
    obtain ⟨⟨k1, hk1, n1⟩, ⟨k2, hk2, n2⟩⟩ := h.less z
    have less : ∀ (k : Nat) (s : Fr), k < i → NmQ k s → rk k s < rk i q := fun k s hk hs => by
      unfold rk
      rw [if_neg z]
      split
      · rename_i y
        subst y
        obtain ⟨_, u, v⟩ := hs.whole
        omega
      · omega
    rw [a, b] at e
    rcases e with e | e <;> cases e
    · exact ⟨k1, n1, less _ _ hk1 n1⟩
    · exact ⟨k2, n2, less _ _ hk2 n2⟩
/-- what the dues cost -/
def cO (o : Option Fr) (C : Nat) : Nat := if o = none then 0 else C
theorem cO_le {o : Option Fr} {C : Nat} : cO o C ≤ cO o (C - 1) + 1 := by
  unfold cO
  split <;> omega
theorem cO_some {r : Fr} {C : Nat} : cO (some r) C = C := if_neg (by intro z; cases z)
def MD (M : Addr → Prop) (d : Addr) : Addr → Prop := fun x => M x ∨ x = d
def sp_law_by_hand (n : Nat) (c : Cn) : Sp := fun vs H Q E => vs.length = 3 ∧ ∃ (b d : Addr) (M : Addr → Prop) (gs : List Gm) (ds : List Int) (v : V) (q : Fr) (i : Nat) (ks : List Fr), vs = [.ref b, v, .ref d] ∧ BookAt c H b M gs ds ∧ KnAt H d gs ks ∧ FrV H v q ∧ NmQ i q ∧ rk i q < n ∧ gs.length + cst i q ≤ 80000 ∧
  ∀ (H' : Hp) (f : List Gm) (e : List Int) (g : Nat) (ks' : List Fr), Keep (MD M d) H H' → BookAt c H' b M (gs ++ f) (ds ++ e) → KnAt H' d (gs ++ f) ks' → f.length + 1 ≤ cst i q → NumG (gs ++ f) q g → Q (.int g) H'
theorem z_law_by_hand {c : Cn} {vs : List V} {H : Hp} {Q : VK} {E : XK} (h : sp_law_by_hand 0 c vs H Q E) : False := by
  obtain ⟨_, _, _, _, _, _, _, _, i, _, _, _, _, _, _, hi, _⟩ := h
  omega
theorem MD.list {c : Cn} {H H' : Hp} {b d l : Addr} {M : Addr → Prop} {gs gs' : List Gm} {ds : List Int} {ks : List Fr} {xs : List V} (K : KnAt H d gs' ks) (nl : ¬ M l) (e : H l = some (.lst xs)) (k : Keep (MD M d) H H') : H' l = some (.lst xs) := k.get (fun z => z.elim nl fun z => by
  obtain ⟨kvs, e', _⟩ := K.ex
  rw [z, e'] at e; cases e) e
theorem MD.tup {c : Cn} {H H' : Hp} {b d l : Addr} {M : Addr → Prop} {gs gs' : List Gm} {ds : List Int} {ks : List Fr} {xs : List V} (B : BookAt c H b M gs ds) (K : KnAt H d gs' ks) (e : H l = some (.tup xs)) (k : Keep (MD M d) H H') : H' l = some (.tup xs) := k.get (fun z => z.elim (fun z => B.tupN e z) fun z => by
  obtain ⟨kvs, e', _⟩ := K.ex
  rw [z, e'] at e; cases e) e
theorem KnAt.ne {H : Hp} {d D : Addr} {gs : List Gm} {ks : List Fr} (K : KnAt H d gs ks) (hD : H D = none) : ¬ d = D := fun z => by
  obtain ⟨kvs, e, _⟩ := K.ex
  rw [z, hD] at e; cases e
theorem by_hand_lc {n : Nat} {c : Cn} {b d l : Addr} {M : Addr → Prop} {gs : List Gm} {ds : List Int} {v : V} {ks : List Fr} {o : Option Fr} {C : Nat} {x3 x4 : Option V} {H : Hp} {Q : VK}
    (B : BookAt c H b M gs ds) (K : KnAt H d gs ks) (dl : DueAt H l o) (nl : ¬ M l) (hr : ∀ r, o = some r → ∃ k, NmQ k r ∧ rk k r < n ∧ cst k r ≤ C) (few : gs.length + cO o C ≤ 80000)
    (k : ∀ (H' : Hp) (f : List Gm) (e : List Int) (ks' : List Fr) (p : Addr) (ms : List Int), Keep (MD M d) H H' → BookAt c H' b M (gs ++ f) (ds ++ e) → KnAt H' d (gs ++ f) ks' → H p = none → H' p = some (.lst (ms.map V.int)) → OneN (NumG (gs ++ f)) o ms → f.length ≤ cO o (C - 1) → Q (.ref p) H') :
    kIter c.K (.ref l) H fun J H1 => kLc J (gName 5) tYes (tCall (sp_law_by_hand n c) [] E0 (tCons (tVar 0) (tCons (tVar 5) (tCons (tVar 2) tNil)))) [5] [some (V.ref b), some v, some (.ref d), x3, x4, none] H1 Q := by
  cases o with
  | none =>
    have el : H l = some (.lst []) := dl
    repeat kaf_suf
    intro D hD
    refine lc_list (xs := []) (fun j H' => H' = upd H D (.lst [])) rfl ?_ ?_ ?_
    · rintro j H' _ rfl
      exact SqL.of (get_new hD el)
    · intro j x H' hj
      cases hj
    · rintro H' rfl
      exact k _ [] [] ks D [] (Keep.alloc hD) (by rw [List.append_nil, List.append_nil]; exact B.same (Keep.alloc hD)) (by rw [List.append_nil]; exact K.keep (Keep.alloc (M := Nil) hD) fun z => z) hD upd_same rfl (Nat.zero_le _)
  | some r =>
    rw [cO_some] at few
    obtain ⟨u, el, eu⟩ := dl
    obtain ⟨kk, nq, rkl, cl⟩ := hr r rfl
    repeat kaf_suf
    intro D hD
    have nD : ¬ M D := B.new hD
    have dD := K.ne hD
    have K0 : Keep (MD M d) H (upd H D (.lst [])) := Keep.alloc hD
    refine lc_list (xs := [.ref u]) (fun j H' => ∃ (f : List Gm) (e : List Int) (ks' : List Fr) (ms : List Int), Keep (MD M d) H H' ∧ BookAt c H' b M (gs ++ f) (ds ++ e) ∧ KnAt H' d (gs ++ f) ks' ∧ H' D = some (.lst (ms.map V.int)) ∧ f.length ≤ j * (C - 1) ∧ (j = 0 → ms = []) ∧ (j = 1 → OneN (NumG (gs ++ f)) (some r) ms)) ⟨[], [], ks, [], K0, by rw [List.append_nil, List.append_nil]; exact B.same (Keep.alloc hD), by rw [List.append_nil]; exact K.keep (Keep.alloc (M := Nil) hD) fun z => z, upd_same, Nat.zero_le _, fun _ => rfl, fun z => by cases z⟩ ?_ ?_ ?_
    · rintro j H' _ ⟨_, _, _, _, k1, _⟩
      exact SqL.of (MD.list (c := c) (b := b) (ds := ds) (gs := gs) K nl el k1)
    · rintro j x H1 hj ⟨f, e, ks1, ms, k1, B1, K1, eD, fl, m0, _⟩
      have hj0 : j = 0 := by
        have := (List.getElem?_eq_some_iff.mp hj).1
        simpa using this
      subst hj0
      cases hj
      obtain rfl := m0 rfl
      have eu1 := MD.tup B K eu k1
      have f0 : f = [] := List.length_eq_zero_iff.mp (by omega)
      subst f0
      repeat kaf_suf
      refine ⟨rfl, ?_⟩
      repeat kaf_suf
      refine ⟨rfl, b, d, M, _, _, _, r, kk, ks1, rfl, B1, K1, ⟨u, rfl, eu1⟩, nq, rkl, by rw [List.append_nil]; omega, fun H2 f2 e2 g2 ks2 k2 B2 K2 fl2 ng => ?_⟩
      have eD2 : H2 D = some (.lst []) := MD.list (c := c) (b := b) (ds := ds) (gs := gs) K1 nD eD k2
      rw [List.append_nil] at *
      repeat kaf_suf
      have kD : Keep (fun y => y = D) H2 (upd H2 D (.lst [.int g2])) := Keep.refl.set rfl
      refine ⟨_, eD2, by rw [sizeLine_eq]; decide, f2, e ++ e2, ks2, [(g2 : Int)], (k1.trans k2).setN hD, ?_, K2.keep kD dD, upd_same, ?_, fun z => (by cases z), fun _ => ⟨g2, rfl, ng⟩⟩
      · rw [← List.append_assoc]
        exact B2.keep kD (fun x z => by cases z; exact ⟨_, eD2⟩) fun x m z => nD (z ▸ m)
      · omega
    · rintro H' ⟨f, e, ks1, ms, k1, B1, K1, eD, fl, _, m1⟩
      refine k _ f e ks1 D ms k1 B1 K1 hD eD (m1 rfl) ?_
      show f.length ≤ cO (some r) (C - 1)
      have fl' : f.length ≤ 1 * (C - 1) := fl
      unfold cO
      rw [if_neg (by intro z; cases z)]
      omega
abbrev N_law_by_hand : List Str := ["book", "q", "known", "lefts", "rights", "one"]
theorem sc_law_by_hand : FnScope N_law_by_hand ["book", "q", "known"] (defScope s_law_by_hand) := ⟨rfl, rfl, rfl, by decide +kernel, rfl, by decide +kernel, by decide +kernel⟩
def t_law_by_hand (n : Nat) (c : Cn) : TS :=
  (C8.tCut (tIfS (tTest (tOp (cNotIn c.P c.w c.K) (tVar 1) (tVar 2)))
  (tSeq (tAsg (tCall (sp_law_due c) [] E0 (tCons (tVar 1) tNil)) (gSeq c.K 2 (gCons (gName 3) (gCons (gName 4) gNil))))
  (tSeq (tAsg (tLc (iAny c.K (tVar 3)) (gName 5) tYes (tCall (sp_law_by_hand n c) [] E0 (tCons (tVar 0) (tCons (tVar 5) (tCons (tVar 2) tNil)))) [5]) (gName 3))
  (tAsg (tMeth c.cBook "game" (sp_Book_game c) [] E0 (tVar 0) (tCons (tVar 3) (tCons (tLc (iAny c.K (tVar 4)) (gName 5) tYes (tCall (sp_law_by_hand n c) [] E0 (tCons (tVar 0) (tCons (tVar 5) (tCons (tVar 2) tNil)))) [5]) tNil))) (gSub (tVar 2) (tVar 1) (bSet c.P c.w)))))
  tNext)
  (tRet (tOp (bIx c.P c.w c.K) (tVar 2) (tVar 1))))
theorem p_law_by_hand {n : Nat} {c : Cn} {mg : Str → Option Value} (T : Txt c mg) {vs : List V} {H : Hp} {Q : VK} {E : XK} (h : sp_law_by_hand (n + 1) c vs H Q E) : t_law_by_hand n c { nx := fun _ H' => Q .non H', rt := Q } (start N_law_by_hand vs) H := by
  obtain ⟨_, b, d, M, gs, ds, v, q, i, ks, rfl, B, K, fv, nq, rkq, few, k⟩ := h
  obtain ⟨t, rfl, et⟩ := id fv
  have ex : ∃ C : Nat, (∀ r, (dueL q = some r ∨ dueR q = some r) → ∃ k, NmQ k r ∧ rk k r < n ∧ cst k r ≤ C) ∧ C ≤ cst i q ∧ cO (dueL q) (C - 1) + cO (dueR q) (C - 1) + 2 ≤ cst i q := by
    by_cases z : i = 0
    · subst z
      obtain ⟨e1, lo, hi⟩ := nq.whole
      obtain ⟨d1, d2, d3⟩ := due_whole nq
      have c0 : cst 0 q = q.1.natAbs + 2 := if_pos rfl
      refine ⟨q.1.natAbs + 1, fun r e => ?_, by omega, ?_⟩
      · obtain ⟨k, nk, hk⟩ := due_less nq e
        refine ⟨k, nk, by omega, ?_⟩
        have k0 : k = 0 := by
          by_cases y : k = 0
          · exact y
          · unfold rk at hk
            rw [if_neg y, if_pos rfl] at hk
            omega
        subst k0
        have hk' : r.1.natAbs < q.1.natAbs := hk
        show r.1.natAbs + 2 ≤ _
        omega
      · rw [c0]
        unfold cO
        rcases Int.lt_trichotomy q.1 0 with s | s | s
        · obtain ⟨a, b⟩ := d2 s
          rw [a, b, if_pos rfl, if_neg (by intro z; cases z)]
          omega
        · obtain ⟨a, b⟩ := d3 s
          rw [a, b, if_pos rfl]
          omega
        · obtain ⟨a, b⟩ := d1 s
          rw [a, b, if_pos rfl, if_neg (by intro z; cases z)]
          omega
    · have c0 : cst i q = 16 * 2 ^ i := if_neg z
      obtain ⟨⟨k1, hk1, n1⟩, ⟨k2, hk2, n2⟩⟩ := nq.less z
      obtain ⟨dl, dr⟩ := nq.due z
      obtain ⟨j, rfl⟩ : ∃ j, i = j + 1 := ⟨i - 1, by omega⟩
      have c3 : 2 ^ (j + 1) = 2 * 2 ^ j := by rw [Nat.pow_succ, Nat.mul_comm]
      have p1 : 0 < 2 ^ j := Nat.pow_pos (by decide)
      have less : ∀ (k : Nat) (r : Fr), k < j + 1 → NmQ k r → rk k r < rk (j + 1) q → ∃ k, NmQ k r ∧ rk k r < n ∧ cst k r ≤ 16 * 2 ^ j := fun k r hk nk hr => by
        have c1 : 2 ^ k ≤ 2 ^ j := Nat.pow_le_pow_right (by decide) (by omega)
        have := cst_le nk
        exact ⟨k, nk, by omega, by omega⟩
      have rl : ∀ (k : Nat) (r : Fr), k < j + 1 → NmQ k r → rk k r < rk (j + 1) q := fun k s hk hs => by
        unfold rk
        rw [if_neg z]
        split
        · rename_i y
          subst y
          obtain ⟨_, u, v⟩ := hs.whole
          omega
        · omega
      refine ⟨16 * 2 ^ j, fun r e => ?_, by omega, ?_⟩
      · rw [dl, dr] at e
        rcases e with e | e <;> cases e
        · exact less _ _ hk1 n1 (rl _ _ hk1 n1)
        · exact less _ _ hk2 n2 (rl _ _ hk2 n2)
      · rw [c0, dl, dr]
        unfold cO
        rw [if_neg (by intro z; cases z), if_neg (by intro z; cases z)]
        omega
  obtain ⟨C, hC, Cq, C2⟩ := ex
  unfold t_law_by_hand
  refine ⟨fun σ H' => ∃ (x3 x4 x5 : Option V) (f : List Gm) (e : List Int) (ks' : List Fr), σ = [some (.ref b), some (.ref t), some (.ref d), x3, x4, x5] ∧ Keep (MD M d) H H' ∧ BookAt c H' b M (gs ++ f) (ds ++ e) ∧ KnAt H' d (gs ++ f) ks' ∧ f.length + 1 ≤ cst i q ∧ q ∈ ks', ?_, ?_⟩
  rotate_left
  · rintro σ H' ⟨x3, x4, x5, f, e, ks', rfl, k1, B1, K1, fl, hq⟩
    have et1 := MD.tup B K et k1
    repeat kaf_suf
    refine K1.ix et1 hq fun g ng => ?_
    repeat kaf_suf
    exact k H' f e g ks' k1 B1 K1 fl ng
  repeat kaf_suf
  refine K.nin et ?_
  repeat kaf_suf
  refine r_iteN (fun p => ?_) (fun p => ?_)
  · repeat kaf_suf
    refine ⟨rfl, _, q, i, rfl, fv, nq, fun H1 p l1 l2 k1 hl1 hl2 ep d1 d2 => ?_⟩
    have nl1 := B.new hl1
    have nl2 := B.new hl2
    have B1 := B.same k1
    have K1 := K.keep k1 fun z => z
    have et1 := k1.get (fun z => z) et
    repeat kaf_suf
    refine by_hand_lc (n := n) (o := dueL q) (C := C) B1 K1 d1 nl1 (fun r e => hC r (.inl e)) (by have := cO_le (o := dueL q) (C := C); omega) fun H2 f2 e2 ks2 p2 ms2 k2 B2 K2 hp2 ep2 on2 fl2 => ?_
    have d22 : DueAt H2 l2 (dueR q) := by
      cases e : dueR q with
      | none => rw [e] at d2; exact MD.list (c := c) (b := b) (ds := ds) (gs := gs) K1 nl2 d2 k2
      | some r =>
        rw [e] at d2
        obtain ⟨u, h1, h2⟩ := d2
        exact ⟨u, MD.list (c := c) (b := b) (ds := ds) (gs := gs) K1 nl2 h1 k2, MD.tup B1 K1 h2 k2⟩
    have et2 := MD.tup B1 K1 et1 k2
    have np2 := B1.new hp2
    obtain ⟨dx1, mv1, nm1, dp1, hb1⟩ := B2.ins_
    repeat kaf_suf
    refine by_hand_lc (n := n) (o := dueR q) (C := C) B2 K2 d22 nl2 (fun r e => hC r (.inr e)) (by rw [List.length_append]; have := cO_le (o := dueR q) (C := C); omega) fun H3 f3 e3 ks3 p3 ms3 k3 B3 K3 hp3 ep3 on3 fl3 => ?_
    have et3 := MD.tup B2 K2 et2 k3
    have ep23 := MD.list (c := c) (b := b) (ds := ds) (gs := gs) K2 np2 ep2 k3
    have np3 := B2.new hp3
    have on2' : OneN (NumG (gs ++ f2 ++ f3)) (dueL q) ms2 := on2.imp fun _ _ z => z.more
    have ms_ok : ∀ {o : Option Fr} {ms : List Int}, OneN (NumG (gs ++ f2 ++ f3)) o ms → ms.length ≤ 1 ∧ canon ms = ms ∧ ∀ m ∈ ms, 0 ≤ m ∧ m < ((gs ++ f2 ++ f3).length : Int) := fun {o ms} h => by
      cases o with
      | none => rw [show ms = [] from h]; exact ⟨by decide, rfl, fun _ z => by cases z⟩
      | some r =>
        obtain ⟨x, rfl, ng⟩ := h
        have := ng.lt
        exact ⟨Nat.le_refl _, rfl, fun m z => by cases List.mem_singleton.mp z; omega⟩
    obtain ⟨s1, s2, s3⟩ := ms_ok on2'
    obtain ⟨u1, u2, u3⟩ := ms_ok on3
    obtain ⟨f4, e4, fl4, _⟩ := addG_grow (gs := gs ++ f2 ++ f3) (k := (ms2, ms3))
    have ng := numG_add (gs := gs ++ f2 ++ f3) (q := q) (gm := (ms2, ms3)) on2' on3
    repeat kaf_suf
    refine ⟨rfl, b, p2, p3, M, _, _, ms2, ms3, rfl, B3, ep23, ep3, np2, np3, by rw [List.length_append, List.length_append]; omega, by omega, by omega, fun m hm => (List.mem_append.mp hm).elim (s3 m) (u3 m), fun H4 e' k4 B4 => ?_⟩
    rw [s2, u2] at B4 ⊢
    have et4 := k4.get (B3.tupN et3) et3
    rw [e4] at B4 ng ⊢
    have K4 := (K3.keep k4 (K3.nM B3)).more (f := f4)
    repeat kaf_suf
    refine K4.set et4 nq ng fun o eo K5 => ?_
    have kd : Keep (fun y => y = d) H4 (upd H4 d o) := Keep.refl.set rfl
    have nd4 := K4.nM B4
    have B5 := B4.keepY kd (fun x z => by
      cases z
      obtain ⟨kvs, e, _⟩ := K4.ex
      rw [e]
      exact ⟨fun l z => (by cases z), fun C d l z => (by cases z)⟩) fun x m z => nd4 (z ▸ m)
    rw [List.append_assoc, List.append_assoc, List.append_assoc, List.append_assoc] at B5
    rw [List.append_assoc, List.append_assoc] at K5
    have KK : Keep (MD M d) H (upd H4 d o) := (((k1.weak.trans k2).trans k3).trans (k4.mono fun _ z => .inl z)).trans (kd.mono fun _ z => .inr z)
    exact ⟨_, _, _, f2 ++ (f3 ++ f4), _, _, rfl, KK, B5, K5, by rw [List.length_append, List.length_append]; omega, addQ_mem.mpr (.inr rfl)⟩
  · repeat kaf_suf
    refine ⟨_, _, _, [], [], ks, rfl, Keep.refl, by rw [List.append_nil, List.append_nil]; exact B, by rw [List.append_nil]; exact K, by show 0 + 1 ≤ _; omega, p⟩
theorem cal_law_by_hand {c : Cn} {mg : Str → Option Value} {base : Heap} (T : Txt c mg) : ∀ n : Nat, Cal c.P c.w c.K mg base CX0 (9 + n) "_law_by_hand" (sp_law_by_hand n c)
  | 0 => by
    obtain ⟨f, fd, F, g, b⟩ := T.F_law_by_hand
    exact ⟨f, fd, ["book", "q", "known"], F.ok (k := 8) (N := N_law_by_hand) sc_law_by_hand (fun vs H Q E h => (z_law_by_hand h).elim) (fun cdv A outer s H vs Q E hr h => (z_law_by_hand h).elim), g, F.kp, b⟩
  | n + 1 => by
    obtain ⟨f, fd, F, g, b⟩ := T.F_law_by_hand
    exact ⟨f, fd, ["book", "q", "known"], F.ok (k := 9 + n) (N := N_law_by_hand) sc_law_by_hand (fun vs H Q E h => h.1) (fun cdv A outer s H vs Q E hr h => ⟨t_law_by_hand n c, by
  exact (C8.pss_cut (ps_if (pt_cmpR (o_notin (hu65 hr)) (pv 1) (pv 2) (by rfl)) (pss_cons (ps_asg (e_call (cal_law_due T) hr (by omega) pass0 rfl (pa_cons (pv 1) pa_nil)) (g_seq rfl (pgs_cons (pg_name (i := 3) sc_law_by_hand.nd rfl (Or.inl rfl)) (pgs_cons (pg_name (i := 4) sc_law_by_hand.nd rfl (Or.inl rfl)) pgs_nil))))
  (pss_cons (ps_setLc (i := 3) (own := [("one", 5)]) rfl sc_law_by_hand.nd rfl rfl (sw_true rfl rfl rfl (by decide +kernel)) (pi_any (pv 3)) (blkOk_by (own := [("one", 5)]) (N := N_law_by_hand) (sc := defScope s_law_by_hand) (by decide +kernel)) (fun _ _ _ _ _ => (pg_name (i := 5) sc_law_by_hand.nd rfl (Or.inl rfl))) (fun _ _ _ _ _ => pts_nil) (fun _ _ _ _ _ => (e_call (cal_law_by_hand T n) hr (by omega) pass0 rfl (pa_cons (pv 0) (pa_cons (pv 5) (pa_cons (pv 2) pa_nil))))))
  (pss_one (ps_asg (e_meth (met_Book_game T) hr (by omega) passL (pv 0) (pa_cons (pv 3) (pa_cons (pe_lc (own := [("one", 5)]) rfl sc_law_by_hand.nd (pi_any (pv 4)) (blkOk_by (own := [("one", 5)]) (N := N_law_by_hand) (sc := defScope s_law_by_hand) (by decide +kernel)) (fun _ _ _ _ _ => (pg_name (i := 5) sc_law_by_hand.nd rfl (Or.inl rfl))) (fun _ _ _ _ _ => pts_nil) (fun _ _ _ _ _ => (e_call (cal_law_by_hand T n) hr (by omega) pass0 rfl (pa_cons (pv 0) (pa_cons (pv 5) (pa_cons (pv 2) pa_nil)))))) pa_nil))) (pg_sub (pv 2) (pv 1) (s_set (hu64 hr))))))) pss_nil)
  (pss_one (ps_ret (pe_ix (x_ix (hu64 hr)) (pv 2) (pv 1) (fun _ _ => rfl))))), p_law_by_hand T h⟩), g, F.kp, b⟩

/-! the walk down a number's game -/
def dItem (z : Fr × Nat) : PyData := .tuple [.tuple [.int z.1.1, .int z.1.2], .int z.2]
def WAt (H : Hp) (t : Addr) (z : Fr × Nat) : Prop := ∃ u, H t = some (.tup [.ref u, .int z.2]) ∧ H u = some (.tup [.int z.1.1, .int z.1.2])
theorem WAt.keep {H H' : Hp} {t : Addr} {z : Fr × Nat} (h : WAt H t z) (k : ∀ b xs, H b = some (.tup xs) → H' b = some (.tup xs)) : WAt H' t z := by
  obtain ⟨u, h1, h2⟩ := h
  exact ⟨u, k _ _ h1, k _ _ h2⟩
def wt (l : List (Fr × Nat)) : Nat := (l.map fun z => 3 ^ (z.2 + 1)).sum
theorem wt_snoc (l : List (Fr × Nat)) (z : Fr × Nat) : wt (l ++ [z]) = wt l + 3 ^ (z.2 + 1) := by
  unfold wt
  rw [List.map_append, List.sum_append]
  simp
theorem r_zip {K : PySem.W.Frag} {ta : TA} {σ : L2.St} {H : Hp} {R : It → Hp → Prop} (k : ta σ H fun vs H1 => ∃ a b xs ys, vs = [.ref a, .ref b] ∧ SqL K H1 a xs ∧ SqL K H1 b ys ∧ R (Itz K a b) H1) : iZip K ta σ H R := k
theorem v_pop {H : Hp} {Q : VK} {l : Addr} {xs : List V} {y : V} (h : H l = some (.lst (xs ++ [y]))) (k : Q y (upd H l (.lst xs))) : rPop (.ref l) [] H Q :=
  ⟨l, xs ++ [y], y, rfl, rfl, h, by simp, by rw [List.dropLast_concat]; exact k⟩
theorem paired_snocI {α β : Type} {R : α → β → Prop} : ∀ {xs : List α} {ys : List β} {y : β}, Paired R xs (ys ++ [y]) → ∃ xs' x, xs = xs' ++ [x] ∧ Paired R xs' ys ∧ R x y
  | _, [], _, .cons r .nil => ⟨[], _, rfl, .nil, r⟩
  | _, a :: ys, y, .cons r t => by
    obtain ⟨xs', x, e, h1, h2⟩ := paired_snocI t
    exact ⟨_ :: xs', x, by rw [e]; rfl, .cons r h1, h2⟩
theorem dp_items {K : PySem.W.Frag} {H : Hp} : ∀ {ts : List Addr} {items : List (Fr × Nat)}, Paired (WAt H) ts items → DpAll K H (ts.map V.ref) (items.map dItem)
  | _, _, .nil => .nil
  | _, _, .cons ⟨u, h1, h2⟩ t => .cons (.tup (SqT.of h1) (.cons (.tup (SqT.of h2) (.cons (.int _) (.cons (.int _) .nil))) (.cons (.int _) .nil))) (dp_items t)
theorem sh_items (items : List (Fr × Nat)) : SeqAt.shaped (.list (items.map dItem)) = true := by
  refine sh_pl ?_ ?_
  · show plA _ = true
    exact plA_map fun x => rfl
  · have := depth_list (n := 5) (ds := items.map dItem) fun d hd => by
      obtain ⟨x, _, rfl⟩ := List.mem_map.mp hd
      simp [dItem, PyData.depth, PyData.depthAll]
    omega
theorem eqv_nil (ds : List PyData) : PyData.eqv (.list ds) (.list []) = decide (ds = []) := by
  cases ds <;> simp [PyData.eqv, PyData.eqvAll]
theorem sh_nil : SeqAt.shaped (.list []) = true := rfl
def Lad (g : Nat) (l : List (Fr × Nat)) : Prop := ∀ (j : Nat) (z : Fr × Nat), l[j]? = some z → z.2 + j ≤ g
theorem Lad.snoc {g : Nat} {l : List (Fr × Nat)} (h : Lad g l) {z : Fr × Nat} (k : z.2 + l.length ≤ g) : Lad g (l ++ [z]) := fun j y e => by
  by_cases c : j < l.length
  · rw [List.getElem?_append_left c] at e
    exact h j y e
  · rw [List.getElem?_append_right (by omega)] at e
    have : j - l.length = 0 := by
      have := (List.getElem?_eq_some_iff.mp e).1
      simp at this
      omega
    rw [this] at e
    cases e
    show z.2 + j ≤ g
    omega
theorem Lad.pop {g : Nat} {l : List (Fr × Nat)} {z : Fr × Nat} (h : Lad g (l ++ [z])) : Lad g l ∧ z.2 + l.length ≤ g :=
  ⟨fun j y e => h j y (by rw [List.getElem?_append_left (List.getElem?_eq_some_iff.mp e).1]; exact e), h l.length z (by rw [List.getElem?_append_right (Nat.le_refl _), Nat.sub_self]; rfl)⟩
structure WSt (b t d w : Addr) (g : Nat) (q : Fr) (gs : List Gm) (H : Hp) (items : List (Fr × Nat)) (ks : List Fr) (H' : Hp) : Prop where
  k : Keep (fun y => y = d) H H'
  kn : KnAt H' d gs ks
  wl : ∃ ts : List Addr, H' w = some (.lst (ts.map V.ref)) ∧ Paired (WAt H') ts items
  good : ∀ z ∈ items, (∃ i, NmQ i z.1) ∧ NumG gs z.1 z.2
  lad : Lad g items
  has : q ∈ ks ∨ (q, g) ∈ items
abbrev N_law_walked : List Str := ["book", "q", "g", "known", "waiting", "one", "here", "lefts", "rights", "moves", "due", "move", "other"]
theorem sc_law_walked : FnScope N_law_walked ["book", "q", "g", "known"] (defScope s_law_walked) := ⟨rfl, rfl, rfl, by decide +kernel, rfl, by decide +kernel, by decide +kernel⟩
def t_law_walked (c : Cn) : TS :=
  (tSeq (tAsg (tLst (tCons (tTup (tCons (tVar 1) (tCons (tVar 2) tNil))) tNil)) (gName 4))
  (tSeq (tWhile (tTest (tOp (cNe c.K) (tVar 4) (tLst tNil)))
  (tSeq (tAsg (tBM0 c.K "list" rPop (tVar 4)) (gSeq c.K 2 (gCons (gName 5) (gCons (gName 6) gNil))))
  (tSeq (tIfS (tOr (tNot (tTru c.K (tCall (sp_law_whole c) [] E0 (tCons (tVar 6) tNil)))) (tOr (tTest (tOp (cLt c.K) (tVar 6) (tC (.int 0)))) (tTest (tOp cGe (tVar 6) (tMeth c.cBook "many" (sp_Book_many c) [] E0 (tVar 0) tNil)))))
  (tRet (tC (.bl false)))
  tNext)
  (C8.tCut (tIfS (tTest (tOp (cNotIn c.P c.w c.K) (tVar 5) (tVar 3)))
  (tSeq (tAsg (tVar 6) (gSub (tVar 3) (tVar 5) (bSet c.P c.w)))
  (tSeq (tAsg (tCall (sp_law_due c) [] E0 (tCons (tVar 5) tNil)) (gSeq c.K 2 (gCons (gName 7) (gCons (gName 8) gNil))))
  (tFor (iAny c.K (tLst (tCons (tTup (tCons (tMeth c.cBook "lefts" (sp_Book_lefts c) [] E0 (tVar 0) (tCons (tVar 6) tNil)) (tCons (tVar 7) tNil))) (tCons (tTup (tCons (tMeth c.cBook "rights" (sp_Book_rights c) [] E0 (tVar 0) (tCons (tVar 6) tNil)) (tCons (tVar 8) tNil))) tNil)))) (gSeq c.K 2 (gCons (gName 9) (gCons (gName 10) gNil)))
  (tSeq (tIfS (tTest (tOp (cNe c.K) (tCB (kLen c.K) (tCons (tVar 9) tNil)) (tCB (kLen c.K) (tCons (tVar 10) tNil))))
  (tRet (tC (.bl false)))
  tNext)
  (tFor (iZip c.K (tCons (tVar 9) (tCons (tVar 10) tNil))) (gSeq c.K 2 (gCons (gName 11) (gCons (gName 12) gNil)))
  (tDrop (tBM c.K "list" rAppend (tVar 4) (tCons (tTup (tCons (tVar 12) (tCons (tVar 11) tNil))) tNil))))))))
  tNext)
  (tIfS (tTest (tOp (cNe c.K) (tOp (bIx c.P c.w c.K) (tVar 3) (tVar 5)) (tVar 6)))
  (tRet (tC (.bl false)))
  tNext)))))
  (tRet (tOp (cEq c.K) (tOp (bIx c.P c.w c.K) (tVar 3) (tVar 1)) (tVar 2)))))
def sp_law_walked (c : Cn) : Sp := fun vs H Q E => vs.length = 4 ∧ ∃ (b d : Addr) (M : Addr → Prop) (gs : List Gm) (ds : List Int) (v : V) (q : Fr) (i g : Nat) (ks : List Fr), vs = [.ref b, v, .int g, .ref d] ∧ BookAt c H b M gs ds ∧ KnAt H d gs ks ∧ FrV H v q ∧ NmQ i q ∧ NumG gs q g ∧ gs.length ≤ 80000 ∧
  ∀ (H' : Hp) (ks' : List Fr), Keep (fun y => y = d) H H' → KnAt H' d gs ks' → Q (.bl true) H'
theorem p_law_walked {c : Cn} {mg : Str → Option Value} (T : Txt c mg) {vs : List V} {H : Hp} {Q : VK} {E : XK} (h : sp_law_walked c vs H Q E) : t_law_walked c { nx := fun _ H' => Q .non H', rt := Q } (start N_law_walked vs) H := by
  obtain ⟨_, b, d, M, gs, ds, v, q, i, g, ks, rfl, B, K, fv, nq, ng, few, k⟩ := h
  obtain ⟨t, rfl, et⟩ := id fv
  have lg := ng.lt
  unfold t_law_walked
  repeat kaf_suf
  intro p1 hp1
  repeat kaf_suf
  intro w hw
  have k1 := Keep.alloc (M := Nil) (o := .tup [.ref t, .int g]) hp1
  have k0 := k1.new (o := .lst [.ref p1]) hw
  have hw0 : H w = none := keep_none k1 hw
  have dw : ¬ w = d := fun z => K.ne hw0 z.symm
  have Bk : ∀ {H'}, Keep (fun y => y = d) H H' → BookAt c H' b M gs ds := fun {H'} kk => B.keepY kk (fun x z => by
    cases z
    obtain ⟨kvs, e, _⟩ := K.ex
    rw [e]
    exact ⟨fun l z => (by cases z), fun C d l z => (by cases z)⟩) fun x m z => K.nM B (z ▸ m)
  have tk : ∀ {H' : Hp} {x : Addr} {xs : List V}, H x = some (.tup xs) → Keep (fun y => y = d) H H' → H' x = some (.tup xs) := fun {H' x xs} e kk => kk.get (fun z => by
    have z : x = d := z
    obtain ⟨kvs, e', _⟩ := K.ex
    rw [z, e'] at e; cases e) e
  have W0 : WSt b t d w g q gs H [(q, g)] ks (upd (upd H p1 (.tup [.ref t, .int g])) w (.lst [.ref p1])) := ⟨k0.weak, K.keep k0 fun z => z, ⟨[p1], upd_same, .cons ⟨t, get_new hw upd_same, k0.get (fun z => z) et⟩ .nil⟩, fun z hz => by cases List.mem_singleton.mp hz; exact ⟨⟨i, nq⟩, ng⟩, fun j z e => by
    have := (List.getElem?_eq_some_iff.mp e).1
    have j0 : j = 0 := by simpa using this
    subst j0
    cases e
    exact Nat.le_refl _, .inr List.mem_cons_self⟩
  generalize upd (upd H p1 (.tup [.ref t, .int g])) w (.lst [.ref p1]) = Hw at W0 ⊢
  clear k0 k1 hp1 hw
  repeat kaf_suf
  refine ⟨fun m σ H' => ∃ (x5 x6 x7 x8 x9 x10 x11 x12 : Option V) (items : List (Fr × Nat)) (ks' : List Fr), σ = [some (.ref b), some (.ref t), some (.int g), some (.ref d), some (.ref w), x5, x6, x7, x8, x9, x10, x11, x12] ∧ WSt b t d w g q gs H items ks' H' ∧ m = wt items, ⟨_, _, _, _, _, _, _, _, _, _, _, rfl, W0, rfl⟩, ?_⟩
  clear W0
  rintro m σ H1 ⟨x5, x6, x7, x8, x9, x10, x11, x12, items, ks1, rfl, W1, rfl⟩
  obtain ⟨kk, K1, ⟨ts, ew, pw⟩, good, lad, has⟩ := W1
  repeat kaf_suf
  intro r0 hr0
  repeat kaf_suf
  have kr := Keep.alloc (M := Nil) (o := .lst []) hr0
  have ew2 := kr.get (fun z => z) ew
  have pw2 : Paired (WAt (upd H1 r0 (.lst []))) ts items := paired_keep pw fun _ _ z => z.keep fun b xs e => kr.get (fun z => z) e
  have kk2 := kk.trans kr.weak
  have K2 := K1.keep kr fun z => z
  refine v_neD (.lst (SqL.of ew2) (dp_items pw2)) (.lst (SqL.of upd_same) .nil) (sh_items items) sh_nil ?_
  rw [eqv_nil]
  generalize upd H1 r0 (.lst []) = H2 at ew2 pw2 kk2 K2 ⊢
  clear kr ew pw kk K1 hr0
  have et2 := tk et kk2
  rcases List.eq_nil_or_concat items with rfl | ⟨items', z, rfl⟩
  · repeat kaf_suf
    repeat kaf_suf
    refine K2.ix et2 (has.resolve_right fun z => by cases z) fun g' ng' => ?_
    rw [show g' = g from ng'.uniq B.ok ng]
    have := k H2 ks1 kk2 K2
    repeat kaf_suf
    rw [decide_eq_true (rfl : (g : Int) = g)]
    exact this
  · rw [List.concat_eq_append] at *
    obtain ⟨ts', t1, rfl, pw3, u, et1, eu⟩ := paired_snocI pw2
    obtain ⟨q1, h1⟩ := z
    obtain ⟨⟨i1, nq1⟩, ng1⟩ := good (q1, h1) (List.mem_append_right _ List.mem_cons_self)
    obtain ⟨lad', ll⟩ := lad.pop
    have lh := ng1.lt
    refine r_kB ?_
    refine r_iteNT' (by simp) ?_
    refine ⟨fun σ H' => ∃ m', m' < wt (items' ++ [(q1, h1)]) ∧ ∃ (x5 x6 x7 x8 x9 x10 x11 x12 : Option V) (items : List (Fr × Nat)) (ks' : List Fr), σ = [some (.ref b), some (.ref t), some (.int g), some (.ref d), some (.ref w), x5, x6, x7, x8, x9, x10, x11, x12] ∧ WSt b t d w g q gs H items ks' H' ∧ m' = wt items, fun σ' H' h => h, ?_⟩
    rw [List.map_append] at ew2
    repeat kaf_suf
    refine v_pop ew2 ?_
    have kp : Keep (fun y => y = w) H2 (upd H2 w (.lst (ts'.map V.ref))) := Keep.refl.set rfl
    have tw : ∀ {H' : Hp} {x : Addr} {xs : List V}, H2 x = some (.tup xs) → Keep (fun y => y = w) H2 H' → H' x = some (.tup xs) := fun {H' x xs} e kk => kk.get (fun z => by
      have z : x = w := z
      rw [z, ew2] at e; cases e) e
    have kk3 : Keep (fun y => y = d) H (upd H2 w (.lst (ts'.map V.ref))) := kk2.setN hw0
    have et13 := tw et1 kp
    have eu3 := tw eu kp
    have et3 := tw et2 kp
    have K3 := K2.keep kp (fun z => dw z.symm)
    have ew3 : (upd H2 w (.lst (ts'.map V.ref))) w = some (.lst (ts'.map V.ref)) := upd_same
    have pw4 : Paired (WAt (upd H2 w (.lst (ts'.map V.ref)))) ts' items' := paired_keep pw3 fun _ _ z => z.keep fun b xs e => tw e kp
    generalize upd H2 w (.lst (ts'.map V.ref)) = H3 at kk3 et13 eu3 et3 K3 ew3 pw4 ⊢
    clear kp tw ew2 pw2 pw3 et1 eu et2 K2 kk2
    have B3 := Bk kk3
    repeat kaf_suf
    refine ⟨rfl, _, rfl, ?_⟩
    obtain ⟨dx1, mv1, nm1, dp1, hb1⟩ := B3.ins_
    repeat kaf_suf
    refine ⟨rfl, b, M, gs, ds, rfl, B3, ?_⟩
    repeat kaf_suf
    refine ⟨fun σ H' => ∃ (x7 x8 x9 x10 x11 x12 : Option V) (items2 : List (Fr × Nat)) (ks2 : List Fr), σ = [some (.ref b), some (.ref t), some (.int g), some (.ref d), some (.ref w), some (.ref u), some (.int h1), x7, x8, x9, x10, x11, x12] ∧ WSt b t d w g q gs H items2 ks2 H' ∧ wt items2 < wt (items' ++ [(q1, h1)]) ∧ q1 ∈ ks2 ∧ H' u = some (.tup [.int q1.1, .int q1.2]), ?_, ?_⟩
    rotate_left
    · rintro σ H' ⟨y7, y8, y9, y10, y11, y12, items2, ks2, rfl, W2, lt2, hq1, eu4⟩
      repeat kaf_suf
      refine W2.kn.ix eu4 hq1 fun g' ng' => ?_
      have : g' = h1 := ng'.uniq B.ok ng1
      subst this
      repeat kaf_suf
      exact ⟨_, lt2, _, _, _, _, _, _, _, _, _, _, rfl, W2, rfl⟩
    repeat kaf_suf
    refine K3.nin eu3 ?_
    repeat kaf_suf
    refine r_iteN (fun p => ?_) (fun p => ?_)
    · repeat kaf_suf
      refine K3.set eu3 nq1 ng1 fun o eo K4 => ?_
      have kd : Keep (fun y => y = d) H3 (upd H3 d o) := Keep.refl.set rfl
      have td : ∀ {x : Addr} {xs : List V}, H3 x = some (.tup xs) → upd H3 d o x = some (.tup xs) := fun {x xs} e => kd.get (fun z => by
        have z : x = d := z
        obtain ⟨kvs, e', _⟩ := K3.ex
        rw [z, e'] at e; cases e) e
      have kk4 := kk3.trans kd
      have ew4 := kd.get dw ew3
      have eu4 := td eu3
      have pw5 : Paired (WAt (upd H3 d o)) ts' items' := paired_keep pw4 fun _ _ z => z.keep fun b xs e => td e
      have et4 := td et3
      generalize upd H3 d o = H4 at kk4 ew4 eu4 pw5 et4 K4 ⊢
      clear kd td kk3 ew3 pw4 et3 K3 eu3 et13 hb1 B3
      have B4 := Bk kk4
      repeat kaf_suf
      refine ⟨rfl, _, q1, i1, rfl, ⟨u, rfl, eu4⟩, nq1, fun H5 p l1 l2 k5 hl1 hl2 ep d1 d2 => ?_⟩
      have B5 := B4.same k5
      obtain ⟨gm, egm, on1, on2⟩ := ng1.inv
      have nw1 : ¬ l1 = w := fun z => by rw [z, ew4] at hl1; cases hl1
      have nw2 : ¬ l2 = w := fun z => by rw [z, ew4] at hl2; cases hl2
      have ew5 := k5.get (fun z => z) ew4
      obtain ⟨dx5, mv5, nm5, dp5, hb5⟩ := B5.ins_
      repeat kaf_suf
      refine ⟨rfl, b, M, gs, ds, h1, gm, rfl, B5, egm, fun la hla => ?_⟩
      have k6 := k5.new (o := .lst (gm.1.map V.int)) hla
      have nwa : ¬ la = w := fun z => by rw [z, ew5] at hla; cases hla
      repeat kaf_suf
      intro ta hta
      have k7 := k6.new (o := .tup [.ref la, .ref l1]) hta
      have B7 := B4.same k7
      obtain ⟨dx7, mv7, nm7, dp7, hb7⟩ := B7.ins_
      repeat kaf_suf
      refine ⟨rfl, b, M, gs, ds, h1, gm, rfl, B7, egm, fun lb hlb => ?_⟩
      have k8 := k7.new (o := .lst (gm.2.map V.int)) hlb
      have ew7 := k7.get (fun z => z) ew4
      have nwb : ¬ lb = w := fun z => by rw [z, ew7] at hlb; cases hlb
      repeat kaf_suf
      intro tb htb
      repeat kaf_suf
      intro L hL
      have ela := get_new (u := .lst [.ref ta, .ref tb]) hL (get_new (u := .tup [.ref lb, .ref l2]) htb (get_new (u := .lst (gm.2.map V.int)) hlb (get_new (u := .tup [.ref la, .ref l1]) hta (upd_same (H := H5) (a := la) (o := .lst (gm.1.map V.int))))))
      have eta := get_new (u := .lst [.ref ta, .ref tb]) hL (get_new (u := .tup [.ref lb, .ref l2]) htb (get_new (u := .lst (gm.2.map V.int)) hlb (upd_same (H := upd H5 la (.lst (gm.1.map V.int))) (a := ta) (o := .tup [.ref la, .ref l1]))))
      have elb := get_new (u := .lst [.ref ta, .ref tb]) hL (get_new (u := .tup [.ref lb, .ref l2]) htb (upd_same (H := upd (upd H5 la (.lst (gm.1.map V.int))) ta (.tup [.ref la, .ref l1])) (a := lb) (o := .lst (gm.2.map V.int))))
      have etb := get_new (u := .lst [.ref ta, .ref tb]) hL (upd_same (H := upd (upd (upd H5 la (.lst (gm.1.map V.int))) ta (.tup [.ref la, .ref l1])) lb (.lst (gm.2.map V.int))) (a := tb) (o := .tup [.ref lb, .ref l2]))
      have eL : (upd (upd (upd (upd (upd H5 la (.lst (gm.1.map V.int))) ta (.tup [.ref la, .ref l1])) lb (.lst (gm.2.map V.int))) tb (.tup [.ref lb, .ref l2])) L (.lst [.ref ta, .ref tb])) L = some (.lst [.ref ta, .ref tb]) := upd_same
      have k9 := (k8.new (o := .tup [.ref lb, .ref l2]) htb).new (o := .lst [.ref ta, .ref tb]) hL
      have k59 : Keep Nil H5 _ := ((((Keep.alloc (M := Nil) (o := .lst (gm.1.map V.int)) hla).new (o := .tup [.ref la, .ref l1]) hta).new (o := .lst (gm.2.map V.int)) hlb).new (o := .tup [.ref lb, .ref l2]) htb).new (o := .lst [.ref ta, .ref tb]) hL
      have ew8 := (k8.new (o := .tup [.ref lb, .ref l2]) htb).get (fun z => z) ew4
      have nwL : ¬ L = w := fun z => by rw [z, ew8] at hL; cases hL
      repeat kaf_suf
      generalize upd (upd (upd (upd (upd H5 la (.lst (gm.1.map V.int))) ta (.tup [.ref la, .ref l1])) lb (.lst (gm.2.map V.int))) tb (.tup [.ref lb, .ref l2])) L (.lst [.ref ta, .ref tb]) = H9 at ela eta elb etb eL k9 k59 ⊢
      have kk9 := kk4.trans k9.weak
      have K9 := K4.keep k9 fun z => z
      have ew9 := k9.get (fun z => z) ew4
      have eu9 := k9.get (fun z => z) eu4
      have pw9 : Paired (WAt H9) ts' items' := paired_keep pw5 fun _ _ z => z.keep fun b xs e => k9.get (fun z => z) e
      have d19 := d1.keep k59
      have d29 := d2.keep k59
      clear k5 k6 k7 k8 k9 k59 hl1 hl2 hla hta hlb htb hL ew4 ew5 ew7 ew8 eu4 B5 B7 hb5 hb7 pw5 kk4 B4 K4 et4 d1 d2 ep
      have low : ∀ (o : Option Fr) (ms : List Int) (r : Fr) (x : Nat), (o = dueL q1 ∧ ms = gm.1 ∨ o = dueR q1 ∧ ms = gm.2) → o = some r → ms = [(x : Int)] → x < h1 ∧ (∃ i, NmQ i r) := fun o ms r x ho eo em => by
        have lw := B.ok.low h1 gm egm
        rcases ho with ⟨rfl, rfl⟩ | ⟨rfl, rfl⟩
        · obtain ⟨k, nk, _⟩ := due_less nq1 (.inl eo)
          have := lw x (List.mem_append_left _ (by rw [em]; exact List.mem_cons_self))
          exact ⟨by omega, k, nk⟩
        · obtain ⟨k, nk, _⟩ := due_less nq1 (.inr eo)
          have := lw x (List.mem_append_right _ (by rw [em]; exact List.mem_cons_self))
          exact ⟨by omega, k, nk⟩
      have p3 : 3 ^ (h1 + 1) = 3 * 3 ^ h1 := by rw [Nat.pow_succ, Nat.mul_comm]
      have p30 : 0 < 3 ^ h1 := Nat.pow_pos (by decide)
      refine for_list (xs := [.ref ta, .ref tb]) (fun j σ H' => ∃ (x9 x10 x11 x12 : Option V) (items2 : List (Fr × Nat)) (ts2 : List Addr), σ = [some (.ref b), some (.ref t), some (.int g), some (.ref d), some (.ref w), some (.ref u), some (.int h1), some (.ref l1), some (.ref l2), x9, x10, x11, x12] ∧ Keep (fun y => y = w) H9 H' ∧ H' w = some (.lst (ts2.map V.ref)) ∧ Paired (WAt H') ts2 items2 ∧ (∀ z ∈ items2, (∃ i, NmQ i z.1) ∧ NumG gs z.1 z.2) ∧ Lad g items2 ∧ items2.length ≤ items'.length + j ∧ wt items2 ≤ wt items' + j * 3 ^ h1 ∧ (∀ z ∈ items', z ∈ items2)) ⟨_, _, _, _, items', ts', rfl, Keep.refl, ew9, pw9, fun z hz => good z (List.mem_append_left _ hz), lad', Nat.le_refl _, by omega, fun z hz => hz⟩ ?_ ?_ ?_
      · rintro j σ H' _ ⟨_, _, _, _, _, _, _, k', _⟩
        exact SqL.of (k'.get nwL eL)
      · rintro j x σ Ha hj ⟨y9, y10, y11, y12, items2, ts2, rfl, ka, ewa, pwa, gooda, lada, lena, wta, suba⟩
        have hj2 : j < 2 := (List.getElem?_eq_some_iff.mp hj).1
        have gen : ∃ (tp lm ld : Addr) (o : Option Fr) (ms : List Int), x = .ref tp ∧ Ha tp = some (.tup [.ref lm, .ref ld]) ∧ Ha lm = some (.lst (ms.map V.int)) ∧ DueAt Ha ld o ∧ OneN (NumG gs) o ms ∧ (o = dueL q1 ∧ ms = gm.1 ∨ o = dueR q1 ∧ ms = gm.2) ∧ ¬ lm = w ∧ ¬ ld = w := by
          have tpk : ∀ {x : Addr} {xs : List V}, H9 x = some (.tup xs) → Ha x = some (.tup xs) := fun {x xs} e => ka.get (fun z => by
            have z : x = w := z
            rw [z, ew9] at e; cases e) e
          have dk : ∀ {l : Addr} {o : Option Fr}, ¬ l = w → DueAt H9 l o → DueAt Ha l o := fun {l o} n h => by
            cases o with
            | none => exact ka.get n h
            | some r => obtain ⟨u, a, b⟩ := h; exact ⟨u, ka.get n a, tpk b⟩
          have : j = 0 ∨ j = 1 := by omega
          rcases this with rfl | rfl
          · cases hj
            exact ⟨ta, la, l1, _, _, rfl, tpk eta, ka.get nwa ela, dk nw1 d19, on1, .inl ⟨rfl, rfl⟩, nwa, nw1⟩
          · cases hj
            exact ⟨tb, lb, l2, _, _, rfl, tpk etb, ka.get nwb elb, dk nw2 d29, on2, .inr ⟨rfl, rfl⟩, nwb, nw2⟩
        obtain ⟨tp, lm, ld, o, ms, rfl, etp, elm, dld, on, who, nlm, nld⟩ := gen
        cases o with
        | none =>
          have ems : ms = [] := on
          subst ems
          have eld : Ha ld = some (.lst []) := dld
          have elm' : Ha lm = some (.lst []) := elm
          repeat kaf_suf
          refine r_zip ?_
          repeat kaf_suf
          refine ⟨lm, ld, [], [], rfl, SqL.of elm', SqL.of eld, ?_⟩
          refine RZ.for_zipL (xs := []) (ys := []) rfl (fun i σ H' => H' = Ha ∧ σ = [some (.ref b), some (.ref t), some (.int g), some (.ref d), some (.ref w), some (.ref u), some (.int h1), some (.ref l1), some (.ref l2), some (.ref lm), some (.ref ld), y11, y12]) ⟨rfl, rfl⟩ ?_ ?_ ?_
          · rintro i σ H' ⟨rfl, _⟩
            exact ⟨SqL.of elm', SqL.of eld⟩
          · intro i x y T σ H' hx
            cases hx
          · rintro σ H' ⟨rfl, rfl⟩
            exact ⟨_, _, _, _, items2, ts2, rfl, ka, ewa, pwa, gooda, lada, by omega, by rw [Nat.add_mul]; omega, suba⟩
        | some r =>
          obtain ⟨xx, rfl, ngx⟩ := on
          obtain ⟨uu, eld, euu⟩ := dld
          obtain ⟨ltx, ir, nqr⟩ := low _ _ r xx who rfl rfl
          have elm' : Ha lm = some (.lst [.int xx]) := elm
          repeat kaf_suf
          refine r_zip ?_
          repeat kaf_suf
          refine ⟨lm, ld, [.int xx], [.ref uu], rfl, SqL.of elm', SqL.of eld, ?_⟩
          have p3x : 3 ^ (xx + 1) ≤ 3 ^ h1 := Nat.pow_le_pow_right (by decide) (by omega)
          refine RZ.for_zipL (xs := [.int xx]) (ys := [.ref uu]) rfl (fun i σ H' => ∃ (x11 x12 : Option V) (items3 : List (Fr × Nat)) (ts3 : List Addr), σ = [some (.ref b), some (.ref t), some (.int g), some (.ref d), some (.ref w), some (.ref u), some (.int h1), some (.ref l1), some (.ref l2), some (.ref lm), some (.ref ld), x11, x12] ∧ Keep (fun y => y = w) Ha H' ∧ H' w = some (.lst (ts3.map V.ref)) ∧ Paired (WAt H') ts3 items3 ∧ (i = 0 → items3 = items2) ∧ (i = 1 → items3 = items2 ++ [(r, xx)])) ⟨_, _, items2, ts2, rfl, Keep.refl, ewa, pwa, fun _ => rfl, fun z => by cases z⟩ ?_ ?_ ?_
          · rintro i σ H' ⟨_, _, _, _, _, k', _⟩
            exact ⟨SqL.of (k'.get nlm elm'), SqL.of (k'.get nld eld)⟩
          · rintro i x y TT σ Hb hx hy ⟨x11, x12, items3, ts3, rfl, kb, ewb, pwb, i0, _⟩ hTT
            have hi0 : i = 0 := by
              have := (List.getElem?_eq_some_iff.mp hx).1
              simpa using this
            subst hi0
            cases hx
            cases hy
            obtain rfl := i0 rfl
            have kt := Keep.alloc (M := Nil) (o := .tup [.int xx, .ref uu]) hTT
            have ewc := kt.get (fun z => z) ewb
            have euc : (upd Hb TT (.tup [.int xx, .ref uu])) uu = some (.tup [.int r.1, .int r.2]) := kt.get (fun z => z) (kb.get (fun z => by rw [z, ewa] at euu; cases euu) euu)
            have pwc : Paired (WAt (upd Hb TT (.tup [.int xx, .ref uu]))) ts3 items3 := paired_keep pwb fun _ _ z => z.keep fun b xs e => kt.get (fun z => z) e
            have kc := kb.trans kt.weak
            have eTT : (upd Hb TT (.tup [.int xx, .ref uu])) TT = some (.tup [.int xx, .ref uu]) := upd_same
            generalize upd Hb TT (.tup [.int xx, .ref uu]) = Hc at ewc euc pwc kc eTT ⊢
            clear kt ewb pwb kb hTT
            have lts : ts3.length = items3.length := Paired.length pwc
            repeat kaf_suf
            intro p9 hp9
            have kd := Keep.alloc (M := Nil) (o := .tup [.ref uu, .int xx]) hp9
            have ewd := kd.get (fun z => z) ewc
            repeat kaf_suf
            have ks : Keep (fun y => y = w) (upd Hc p9 (.tup [.ref uu, .int xx])) (upd (upd Hc p9 (.tup [.ref uu, .int xx])) w (.lst (ts3.map V.ref ++ [.ref p9]))) := Keep.refl.set rfl
            have tk2 : ∀ {x : Addr} {xs : List V}, Hc x = some (.tup xs) → (upd (upd Hc p9 (.tup [.ref uu, .int xx])) w (.lst (ts3.map V.ref ++ [.ref p9]))) x = some (.tup xs) := fun {x xs} e => ks.get (fun z => by
              have z : x = w := z
              rw [z, ewc] at e; cases e) (kd.get (fun z => z) e)
            refine ⟨_, _, items3 ++ [(r, xx)], ts3 ++ [p9], rfl, (kc.trans kd.weak).trans ks, by rw [List.map_append]; exact upd_same, Paired.snoc (paired_keep pwc fun _ _ z => z.keep fun b xs e => tk2 e) ⟨uu, ks.get (fun z => by
              have z : p9 = w := z
              rw [z, ewc] at hp9; cases hp9) upd_same, tk2 euc⟩, fun z => (by cases z), fun _ => rfl⟩
          · rintro σ Hb ⟨x11, x12, items3, ts3, rfl, kb, ewb, pwb, _, i1⟩
            obtain rfl := i1 rfl
            refine ⟨_, _, _, _, items2 ++ [(r, xx)], ts3, rfl, ka.trans kb, ewb, pwb, fun z hz => ?_, lada.snoc (by show xx + items2.length ≤ g; omega), by rw [List.length_append]; show items2.length + 1 ≤ _; omega, ?_, fun z hz => List.mem_append_left _ (suba z hz)⟩
            · rcases List.mem_append.mp hz with hz | hz
              · exact gooda z hz
              · cases List.mem_singleton.mp hz
                exact ⟨⟨ir, nqr⟩, ngx⟩
            · rw [wt_snoc, Nat.add_mul]
              show wt items2 + 3 ^ (xx + 1) ≤ _
              omega
      · rintro σ Ha ⟨y9, y10, y11, y12, items2, ts2, rfl, ka, ewa, pwa, gooda, lada, lena, wta, suba⟩
        refine ⟨_, _, _, _, _, _, items2, _, rfl, ⟨fun a o n h => ka a o (fun z => by rw [z, hw0] at h; cases h) (kk9 a o n h), K9.keep ka (fun z => dw z.symm), ⟨ts2, ewa, pwa⟩, gooda, lada, ?_⟩, ?_, addQ_mem.mpr (.inr rfl), ka.get (fun z => by rw [z, ew9] at eu9; cases eu9) eu9⟩
        · rcases has with h | h
          · exact .inl (addQ_mem.mpr (.inl h))
          · rcases List.mem_append.mp h with h | h
            · exact .inr (suba _ h)
            · cases List.mem_singleton.mp h
              exact .inl (addQ_mem.mpr (.inr rfl))
        · rw [wt_snoc]
          show wt items2 < _ + 3 ^ (h1 + 1)
          have wta' : wt items2 ≤ wt items' + 2 * 3 ^ h1 := wta
          omega
    · repeat kaf_suf
      refine ⟨_, _, _, _, _, _, items', ks1, rfl, ⟨kk3, K3, ⟨ts', ew3, pw4⟩, fun z hz => good z (List.mem_append_left _ hz), lad', ?_⟩, ?_, p, eu3⟩
      · rcases has with h | h
        · exact .inl h
        · rcases List.mem_append.mp h with h | h
          · exact .inr h
          · cases List.mem_singleton.mp h
            exact .inl p
      · rw [wt_snoc]
        have : 0 < 3 ^ (h1 + 1) := Nat.pow_pos (by decide)
        show _ < _ + 3 ^ (h1 + 1)
        omega

/-! what the book tells of the known games -/
theorem bookLock {c : Cn} {H : Hp} {b d : Addr} {M : Addr → Prop} {gs : List Gm} {ds : List Int} {kvs : List TX} {o : HO} (B : BookAt c H b M gs ds) (e : H d = some (.dT kvs)) : BookAt c (upd H d o) b M gs ds :=
  B.keepY (N := fun x => x = d) (Keep.refl.set rfl) (fun x h => by subst h; exact ⟨(fun l z => by rw [e] at z; cases z), (fun _ _ l z => by rw [e] at z; cases z)⟩) fun x h z => by
    subst z
    rcases B.cell h with ⟨l, q⟩ | ⟨l, q⟩ <;> rw [e] at q <;> cases q
theorem v_ixRd {P : Program} {w : World} {K : PySem.W.Frag} {H : Hp} {Q : VK} {d p : Addr} {kvs : List TX} {q : Fr} {v : V} (e : Rd H d (.dT kvs)) (ep : PrT H p q) (h : valV kvs (pk q) = some v) (k : Q v H) : bIx P w K (.ref d) (.ref p) H Q :=
  .inr (.inr (.inr (.inl ⟨d, v, rfl, .inr ⟨kvs, pk q, p, e, rfl, ep, h.symm⟩, k⟩)))
abbrev N_law_of_the_book : List Str := ["book", "known", "q", "g", "moves", "move"]
theorem sc_law_of_the_book : FnScope N_law_of_the_book ["book", "known"] (defScope s_law_of_the_book) := ⟨rfl, rfl, rfl, by decide +kernel, rfl, by decide +kernel, by decide +kernel⟩
def t_law_of_the_book (c : Cn) : TS :=
  (tSeq (tLock (tFor (iKeys (tVar 1)) (gName 2)
  (tSeq (tAsg (tOp (bIx c.P c.w c.K) (tVar 1) (tVar 2)) (gName 3))
  (tSeq (tAsg (tOp (bAdd c.K) (tMeth c.cBook "lefts" (sp_Book_lefts c) [] E0 (tVar 0) (tCons (tVar 3) tNil)) (tMeth c.cBook "rights" (sp_Book_rights c) [] E0 (tVar 0) (tCons (tVar 3) tNil))) (gName 4))
  (tSeq (tIfS (tTest (tOp (cNe c.K) (tMeth c.cBook "game" (sp_Book_game c) [] E0 (tVar 0) (tCons (tMeth c.cBook "lefts" (sp_Book_lefts c) [] E0 (tVar 0) (tCons (tVar 3) tNil)) (tCons (tMeth c.cBook "rights" (sp_Book_rights c) [] E0 (tVar 0) (tCons (tVar 3) tNil)) tNil))) (tVar 3)))
  (tRet (tC (.bl false)))
  tNext)
  (tIfS (tTest (tOp (cNe c.K) (tMeth c.cBook "depth" (sp_Book_depth c) [] E0 (tVar 0) (tCons (tVar 3) tNil)) (tCB (kMax c.K) (tCons (tOp (bAdd c.K) (tLst (tCons (tC (.int 0)) tNil)) (tLc (iAny c.K (tVar 4)) (gName 5) tYes (tOp (bAdd c.K) (tC (.int 1)) (tMeth c.cBook "depth" (sp_Book_depth c) [] E0 (tVar 0) (tCons (tVar 5) tNil))) [5])) tNil))))
  (tRet (tC (.bl false)))
  tNext))))))
  (tRet (tC (.bl true))))
def sp_law_of_the_book (c : Cn) : Sp := fun vs H Q E => vs.length = 2 ∧ ∃ (b d : Addr) (M : Addr → Prop) (gs : List Gm) (ds : List Int) (ks : List Fr), vs = [.ref b, .ref d] ∧ BookAt c H b M gs ds ∧ KnAt H d gs ks ∧ gs.length ≤ 80000 ∧ ∀ H', Q (.bl true) H'
theorem p_law_of_the_book {c : Cn} {mg : Str → Option Value} (T : Txt c mg) {vs : List V} {H : Hp} {Q : VK} {E : XK} (h : sp_law_of_the_book c vs H Q E) : t_law_of_the_book c { nx := fun _ H' => Q .non H', rt := Q } (start N_law_of_the_book vs) H := by
  obtain ⟨_, b, d, M, gs, ds, ks, rfl, B, K, few, k⟩ := h
  obtain ⟨kvs, ed, kf⟩ := K.ex
  have nMd := K.nM B
  unfold t_law_of_the_book
  repeat kaf_suf
  refine ⟨d, _, ed, trivial, fun od => ?_⟩
  have BL := bookLock (o := .frz od (.dT kvs)) B ed
  have eL : (upd H d (.frz od (.dT kvs))) d = some (.frz od (.dT kvs)) := upd_same
  generalize upd H d (.frz od (.dT kvs)) = HL at BL eL ⊢
  refine r_for (r_ikeysT (r_var rfl ⟨d, od, rfl, .inr ⟨kvs, eL, ?_⟩⟩))
  refine forT kf.1 (fun j σ H' => ∃ (x2 x3 x4 : Option V), σ = [some (.ref b), some (.ref d), x2, x3, x4, none] ∧ Keep M HL H' ∧ BookAt c H' b M gs ds) ⟨_, _, _, rfl, Keep.refl, BL⟩ ?_ ?_ ?_
  · rintro j σ H' ⟨_, _, _, _, kk, _⟩
    exact kk.get nMd eL
  · rintro j z qa σ H1 hz ⟨x2, x3, x4, rfl, k1, B1⟩ hq
    obtain ⟨g, hg, ng⟩ := kf.2 z (List.mem_of_getElem? hz)
    obtain ⟨gm, egm, _, _⟩ := ng.inv
    have lg := ng.lt
    have eL1 := k1.get nMd eL
    obtain ⟨u1, u2⟩ := B.ok.up gm (List.mem_of_getElem? egm)
    have low := B.ok.low g gm egm
    obtain ⟨dg, hdg⟩ : ∃ e, ds[g]? = some e := ⟨_, List.getElem?_eq_getElem (by rw [B.dok.len]; exact lg)⟩
    obtain ⟨dx1, mv1, nm1, dp1, hb1⟩ := B1.ins_
    repeat kaf_suf
    refine v_ixRd (.inr ⟨_, eL1⟩) hq hg ?_
    repeat kaf_suf
    refine ⟨rfl, b, M, gs, ds, g, gm, rfl, B1, egm, fun r1 hr1 => ?_⟩
    have q1 := Keep.alloc (M := Nil) (o := .lst (gm.1.map V.int)) hr1
    repeat kaf_suf
    refine ⟨rfl, b, M, gs, ds, g, gm, rfl, B1.same q1, egm, fun r2 hr2 => ?_⟩
    have lens : gm.1.length ≤ 1 ∧ gm.2.length ≤ 1 := by
      obtain ⟨gm', e', a, b⟩ := ng.inv
      rw [egm] at e'
      cases e'
      have one : ∀ {o : Option Fr} {ms : List Int}, OneN (NumG gs) o ms → ms.length ≤ 1 := fun {o ms} h => by
        cases o with
        | none => rw [show ms = [] from h]; decide
        | some r => obtain ⟨x, rfl, _⟩ := h; exact Nat.le_refl _
      exact ⟨one a, one b⟩
    obtain ⟨len1, len2⟩ := lens
    repeat kaf_suf
    intro r3 hr3
    have q3 := (q1.new (o := .lst (gm.2.map V.int)) hr2).new (o := .lst (gm.1.map V.int ++ gm.2.map V.int)) hr3
    have nr3 : ¬ M r3 := (B1.same (q1.new (o := .lst (gm.2.map V.int)) hr2)).new hr3
    have er3 : (upd (upd (upd H1 r1 (.lst (gm.1.map V.int))) r2 (.lst (gm.2.map V.int))) r3 (.lst (gm.1.map V.int ++ gm.2.map V.int))) r3 = some (.lst ((gm.1 ++ gm.2).map V.int)) := by rw [List.map_append]; exact upd_same
    generalize upd (upd (upd H1 r1 (.lst (gm.1.map V.int))) r2 (.lst (gm.2.map V.int))) r3 (.lst (gm.1.map V.int ++ gm.2.map V.int)) = H3 at q3 er3 ⊢
    have B3 := B1.same q3
    have k3 := k1.trans q3.weak
    clear hr1 hr2 hr3 q1 q3
    obtain ⟨dx3, mv3, nm3, dp3, hb3⟩ := B3.ins_
    repeat kaf_suf
    refine ⟨rfl, b, M, gs, ds, g, gm, rfl, B3, egm, fun r4 hr4 => ?_⟩
    have q4 := Keep.alloc (M := Nil) (o := .lst (gm.1.map V.int)) hr4
    repeat kaf_suf
    refine ⟨rfl, b, M, gs, ds, g, gm, rfl, B3.same q4, egm, fun r5 hr5 => ?_⟩
    have q5 := q4.new (o := .lst (gm.2.map V.int)) hr5
    repeat kaf_suf
    refine ⟨rfl, b, r4, r5, M, gs, ds, gm.1, gm.2, rfl, B3.same q5, get_new hr5 upd_same, upd_same, B3.new hr4, (B3.same q4).new hr5, by omega, by omega, by omega, fun m hm => by have := low m hm; omega, fun H6 e k6 B6 => ?_⟩
    have mem := List.mem_of_getElem? egm
    have ea : addG gs (canon gm.1, canon gm.2) = gs := by
      rw [canon_self u1, canon_self u2]
      exact if_pos mem
    have ec : (canon gm.1, canon gm.2) = gm := by rw [canon_self u1, canon_self u2]
    have ei : ixG gs gm = g := by
      have h1 := ixG_get mem
      obtain ⟨a1, b1⟩ := List.getElem?_eq_some_iff.mp h1
      obtain ⟨a2, b2⟩ := List.getElem?_eq_some_iff.mp egm
      exact (List.getElem_inj B.ok.nd).mp (b1.trans b2.symm)
    rw [ea] at B6 ⊢
    rw [ec, ei]
    have e0 : e = [] := by
      have h1 := B6.dok.len
      have h2 := B.dok.len
      rw [List.length_append] at h1
      exact List.length_eq_zero_iff.mp (by omega)
    rw [e0, List.append_nil] at B6
    have k6' := (k3.trans q5.weak).trans k6
    have er6 := k6.get nr3 (q5.get (fun z => z) er3)
    clear k6 q5 q4 hr4 hr5 hb3 B3 er3
    obtain ⟨dx6, mv6, nm6, dp6, hb6⟩ := B6.ins_
    repeat kaf_suf
    repeat kaf_suf
    refine ⟨rfl, b, M, gs, ds, g, dg, rfl, B6, hdg, ?_⟩
    repeat kaf_suf
    intro z0 hz0
    repeat kaf_suf
    intro D hD
    have kz : Keep Nil H6 (upd H6 z0 (.lst [.int 0])) := Keep.alloc hz0
    have hly := kz.get (fun z => z) er6
    have hzz : (upd H6 z0 (.lst [.int 0])) z0 = some (.lst [.int 0]) := upd_same
    have B7 := B6.same kz
    have k7 := k6'.trans kz.weak
    generalize upd H6 z0 (.lst [.int 0]) = H7 at kz hly hzz B7 k7 hD ⊢
    clear kz k6' er6 B6 hb6 hz0
    have hlen : ((dps ds (gm.1 ++ gm.2)).map fun x => 1 + x).length = (gm.1 ++ gm.2).length := by simp [dps]
    have lenS : (gm.1 ++ gm.2).length ≤ 2 := by rw [List.length_append]; omega
    refine lc_list (xs := (gm.1 ++ gm.2).map V.int) (fun j H3 => H3 D = some (.lst ((((dps ds (gm.1 ++ gm.2)).map fun x => 1 + x).take j).map V.int)) ∧ Keep Nil H7 H3) ⟨upd_same, Keep.alloc hD⟩ ?_ ?_ ?_
    · rintro j H3 _ ⟨_, k3⟩; exact SqL.of (k3.get (fun z => z) hly)
    · rintro j x H3 hj ⟨e3, k3⟩
      rw [List.getElem?_map] at hj
      obtain ⟨m, hm, rfl⟩ := Option.map_eq_some_iff.mp hj
      obtain ⟨b1, b2⟩ := low m (List.mem_of_getElem? hm)
      have hm' := (List.getElem?_eq_some_iff.mp hm).1
      obtain ⟨n, rfl⟩ := Int.eq_ofNat_of_zero_le b1
      have hn : n < ds.length := by have := B.dok.len; omega
      have B8 := B7.same k3
      obtain ⟨dx8, mv8, nm8, dp8, hb8⟩ := B8.ins_
      repeat kaf_suf
      refine ⟨rfl, ?_⟩
      repeat kaf_suf
      refine ⟨rfl, b, M, gs, ds, n, ds[n], rfl, B8, List.getElem?_eq_getElem hn, ?_⟩
      repeat kaf_suf
      refine ⟨_, e3, few1 (by simp; omega), ?_, k3.setN hD⟩
      rw [upd_same]
      have e : ((dps ds (gm.1 ++ gm.2)).map fun x => 1 + x)[j]? = some (1 + ds[n]) := by
        rw [List.getElem?_map, dps, List.getElem?_map, hm]; simp [hn]
      rw [List.take_succ, e]; simp
    · rintro H3 ⟨e3, k3⟩
      have e4 : H3 D = some (.lst (((dps ds (gm.1 ++ gm.2)).map fun x => 1 + x).map V.int)) := by
        rw [e3, List.take_of_length_le (by rw [hlen]; simp)]
      have hz3 := k3.get (fun z => z) hzz
      refine v_addL hz3 e4 (few2 (by rw [List.length_map, hlen]; show 1 + _ ≤ _; omega)) fun y2 hy2 => ?_
      repeat kaf_suf
      refine v_maxL (ns := 0 :: (dps ds (gm.1 ++ gm.2)).map fun x => 1 + x) upd_same (by simp) fun m hm hmax => ?_
      have em : dg = m := by
        obtain ⟨d1, d2, d3⟩ := B.dok.at_ g gm dg egm hdg
        have p0 := DOk.pos B.ok B.dok (g + 1) g (by omega) dg hdg
        have h1 : m ≤ dg := by
          rcases List.mem_cons.mp hm with h | h
          · omega
          · obtain ⟨x, hx, rfl⟩ := List.mem_map.mp h
            have := d2 x hx; omega
        have h2 : dg ≤ m := by
          by_cases z : gm.1 ++ gm.2 = []
          · have := d1 z
            have := hmax 0 List.mem_cons_self
            omega
          · obtain ⟨x, hx, ex⟩ := d3 z
            have := hmax (1 + x) (List.mem_cons_of_mem _ (List.mem_map.mpr ⟨x, hx, rfl⟩))
            omega
        omega
      subst em
      repeat kaf_suf
      exact ⟨_, _, _, rfl, k7.trans (k3.new hy2).weak, (B7.same k3).same (Keep.alloc hy2)⟩
  · rintro σ H1 ⟨x2, x3, x4, rfl, k1, B1⟩
    refine ⟨k1.get nMd eL, ?_⟩
    repeat kaf_suf
    exact k _
theorem cal_law_of_the_book {c : Cn} {mg : Str → Option Value} {base : Heap} (T : Txt c mg) : Cal c.P c.w c.K mg base CX0 6 "_law_of_the_book" (sp_law_of_the_book c) := by
  obtain ⟨f, fd, F, g, b⟩ := T.F_law_of_the_book
  exact ⟨f, fd, ["book", "known"], F.ok (k := 5) (N := N_law_of_the_book) sc_law_of_the_book (fun vs H Q E h => h.1) (fun cdv A outer s H vs Q E hr h => ⟨t_law_of_the_book c, by
  exact (pss_cons (ps_lock (ps_for PassesOwn.never rfl (pi_keys (pv 1)) (pg_name (i := 2) sc_law_of_the_book.nd rfl (Or.inl rfl))
  (pss_cons (ps_set (i := 3) sc_law_of_the_book.nd rfl (Or.inl rfl) (pe_ix (x_ix (hu64 hr)) (pv 1) (pv 2) (fun _ _ => rfl)))
  (pss_cons (ps_set (i := 4) sc_law_of_the_book.nd rfl (Or.inl rfl) (pe_op o_add (e_meth (met_Book_lefts T) hr (by decide) passL (pv 0) (pa_cons (pv 3) pa_nil)) (e_meth (met_Book_rights T) hr (by decide) passL (pv 0) (pa_cons (pv 3) pa_nil))))
  (pss_cons (ps_if (pt_cmpR (o_ne (hu64 hr)) (e_meth (met_Book_game T) hr (by decide) passL (pv 0) (pa_cons (e_meth (met_Book_lefts T) hr (by decide) passL (pv 0) (pa_cons (pv 3) pa_nil)) (pa_cons (e_meth (met_Book_rights T) hr (by decide) passL (pv 0) (pa_cons (pv 3) pa_nil)) pa_nil))) (pv 3) (nomark _)) (pss_one (ps_ret pe_bl)) pss_nil)
  (pss_one (ps_if (pt_cmpR (o_ne (hu64 hr)) (e_meth (met_Book_depth T) hr (by decide) passL (pv 0) (pa_cons (pv 3) pa_nil)) (pe_callB (k_max rfl) (by rfl) T.n_max (by decide +kernel) (pa_cons (pe_op o_add (pe_lst (pa_cons pe_int pa_nil)) (pe_lc (own := [("move", 5)]) rfl sc_law_of_the_book.nd (pi_any (pv 4)) (blkOk_by (own := [("move", 5)]) (N := N_law_of_the_book) (sc := defScope s_law_of_the_book) (by decide +kernel)) (fun _ _ _ _ _ => (pg_name (i := 5) sc_law_of_the_book.nd rfl (Or.inl rfl))) (fun _ _ _ _ _ => pts_nil) (fun _ _ _ _ _ => (pe_op o_add pe_int (e_meth (met_Book_depth T) hr (by decide) passL (pv 0) (pa_cons (pv 5) pa_nil)))))) pa_nil)) (nomark _)) (pss_one (ps_ret pe_bl)) pss_nil)))))))
  (pss_one (ps_ret pe_bl))), p_law_of_the_book T h⟩), g, F.kp, b⟩
abbrev N_law_bad : List Str := ["store", "bottom", "kind", "sign"]
theorem sc_law_bad : FnScope N_law_bad ["store"] (defScope s_law_bad) := ⟨rfl, rfl, rfl, by decide +kernel, rfl, by decide +kernel, by decide +kernel⟩
def t_law_bad (c : Cn) : TS :=
  (tSeq (tAsg (tOp (bIx c.P c.w c.K) (tLst (tCons (tC (.int 1)) (tCons (tC (.int 2)) (tCons (tC (.int 4)) (tCons (tC (.int 8)) (tCons (tC (.int 16)) (tCons (tC (.int 32)) (tCons (tC (.int 64)) tNil)))))))) (tCall (sp_law_take c) [] E0 (tCons (tVar 0) (tCons (tC (.int 7)) tNil)))) (gName 1))
  (tSeq (tAsg (tCall (sp_law_take c) [] E0 (tCons (tVar 0) (tCons (tC (.int 4)) tNil))) (gName 2))
  (tSeq (tIfS (tTest (tOp (cEq c.K) (tVar 2) (tC (.int 0))))
  (tSeq (tAsg (tOp (bIx c.P c.w c.K) (tLst (tCons (tC (.int 3)) (tCons (tC (.int 5)) (tCons (tC (.int 6)) (tCons (tC (.int 7)) (tCons (tC (.int 12)) (tCons (tC (.int 48)) (tCons (tC (.int 96)) (tCons (tOp (bAdd c.K) (tOp bPow (tC (.int 10)) (tC (.int 39))) (tC (.int 1))) tNil))))))))) (tCall (sp_law_take c) [] E0 (tCons (tVar 0) (tCons (tC (.int 8)) tNil)))) (gName 1))
  (tRet (tTup (tCons (tOp (bAdd c.K) (tC (.int 1)) (tOp bMul (tVar 1) (tOp bSub (tCall (sp_law_take c) [] E0 (tCons (tVar 0) (tCons (tC (.int 9)) tNil))) (tC (.int 4))))) (tCons (tVar 1) tNil)))))
  tNext)
  (tSeq (tIfS (tTest (tOp (cEq c.K) (tVar 2) (tC (.int 1))))
  (tRet (tTup (tCons (tOp bSub (tOp bMul (tC (.int 2)) (tCall (sp_law_take c) [] E0 (tCons (tVar 0) (tCons (tC (.int 700)) tNil)))) (tC (.int 699))) (tCons (tOp (bIx c.P c.w c.K) (tLst (tCons (tC (.int 128)) (tCons (tC (.int 256)) (tCons (tOp bPow (tC (.int 2)) (tC (.int 64))) tNil)))) (tCall (sp_law_take c) [] E0 (tCons (tVar 0) (tCons (tC (.int 3)) tNil)))) tNil))))
  tNext)
  (tSeq (tAsg (tOp bSub (tOp bMul (tC (.int 2)) (tCall (sp_law_take c) [] E0 (tCons (tVar 0) (tCons (tC (.int 2)) tNil)))) (tC (.int 1))) (gName 3))
  (tSeq (tIfS (tTest (tOp (cEq c.K) (tVar 2) (tC (.int 2))))
  (tRet (tTup (tCons (tOp bMul (tVar 3) (tOp (bAdd c.K) (tOp bMul (tC (.int 12)) (tVar 1)) (tC (.int 1)))) (tCons (tVar 1) tNil))))
  tNext)
  (tRet (tTup (tCons (tOp bMul (tVar 3) (tOp (bAdd c.K) (tC (.int 13)) (tCall (sp_law_take c) [] E0 (tCons (tVar 0) (tCons (tOp bPow (tC (.int 10)) (tC (.int 38))) tNil))))) (tCons (tC (.int 1)) tNil))))))))))
def sp_law_bad (c : Cn) : Sp := fun vs H Q E => vs.length = 1 ∧ ∃ (a : Addr), vs = [.ref a] ∧ StA H a ∧ ∀ (H' : Hp) (v : V) (q : Fr), Keep (fun y => y = a) H H' → StA H' a → FrV H' v q → 0 < q.2 → BadF q → Q v H'
theorem pow2_list {i : Nat} (h : i ≤ 6) : (2 : Int) ^ i = 1 ∨ (2 : Int) ^ i = 2 ∨ (2 : Int) ^ i = 4 ∨ (2 : Int) ^ i = 8 ∨ (2 : Int) ^ i = 16 ∨ (2 : Int) ^ i = 32 ∨ (2 : Int) ^ i = 64 := by
  have : i = 0 ∨ i = 1 ∨ i = 2 ∨ i = 3 ∨ i = 4 ∨ i = 5 ∨ i = 6 := by omega
  rcases this with rfl | rfl | rfl | rfl | rfl | rfl | rfl <;> decide
theorem p_law_bad {c : Cn} {mg : Str → Option Value} (T : Txt c mg) {vs : List V} {H : Hp} {Q : VK} {E : XK} (h : sp_law_bad c vs H Q E) : t_law_bad c { nx := fun _ H' => Q .non H', rt := Q } (start N_law_bad vs) H := by
  obtain ⟨_, a, rfl, st, k⟩ := h
  have e39 : (10 : Int) ^ (39 : Int).toNat = 1000000000000000000000000000000000000000 := by decide +kernel
  have e38 : (10 : Int) ^ (38 : Int).toNat = 100000000000000000000000000000000000000 := by decide +kernel
  have e64 : (2 : Int) ^ (64 : Int).toNat = 18446744073709551616 := by decide +kernel
  unfold t_law_bad
  repeat kaf_suf
  intro l hl
  have kl := Keep.alloc (M := Nil) (o := .lst [.int 1, .int 2, .int 4, .int 8, .int 16, .int 32, .int 64]) hl
  repeat kaf_suf
  refine ⟨rfl, a, _, rfl, st.keep kl, by decide, w10 _ (by decide) (by decide), fun H3 z k3 st3 z0 z1 => ?_⟩
  obtain ⟨j, rfl⟩ := Int.eq_ofNat_of_zero_le z0
  have hj : j ≤ 6 := by omega
  have hx : atI [V.int 1, .int 2, .int 4, .int 8, .int 16, .int 32, .int 64] (j : Int) = some (.int (2 ^ j)) := by
    have : j = 0 ∨ j = 1 ∨ j = 2 ∨ j = 3 ∨ j = 4 ∨ j = 5 ∨ j = 6 := by omega
    rcases this with rfl | rfl | rfl | rfl | rfl | rfl | rfl <;> rfl
  have b12 := pow2_list hj
  have el : H3 l = some (.lst [.int 1, .int 2, .int 4, .int 8, .int 16, .int 32, .int 64]) := k3.get (st.ne hl) upd_same
  have kk := kl.weak.trans k3
  clear kl k3
  repeat kaf_suf
  refine ⟨rfl, a, _, rfl, st3, by decide, w10 _ (by decide) (by decide), fun H4 kd k4 st4 d0 d1 => ?_⟩
  have kk4 := kk.trans k4
  clear kk k4 st3 st el
  repeat kaf_suf
  refine r_ite (fun p => ?_) (fun p => ?_)
  · repeat kaf_suf
    rw [e39]
    repeat kaf_suf
    intro m hm
    have km := Keep.alloc (M := Nil) (o := .lst [.int 3, .int 5, .int 6, .int 7, .int 12, .int 48, .int 96, .int (1000000000000000000000000000000000000000 + 1)]) hm
    repeat kaf_suf
    refine ⟨rfl, a, _, rfl, st4.keep km, by decide, w10 _ (by decide) (by decide), fun H5 y k5 st5 y0 y1 => ?_⟩
    have hy : ∃ b : Int, atI [V.int 3, .int 5, .int 6, .int 7, .int 12, .int 48, .int 96, .int (1000000000000000000000000000000000000000 + 1)] y = some (.int b) ∧ 0 < b ∧ (b = 3 ∨ b = 5 ∨ b = 6 ∨ b = 7 ∨ b = 12 ∨ b = 48 ∨ 64 < b) ∧ Wd 200 b := by
      have : y = 0 ∨ y = 1 ∨ y = 2 ∨ y = 3 ∨ y = 4 ∨ y = 5 ∨ y = 6 ∨ y = 7 := by omega
      rcases this with rfl | rfl | rfl | rfl | rfl | rfl | rfl | rfl
      · exact ⟨_, rfl, by decide, by decide, w10 _ (by decide) (by decide)⟩
      · exact ⟨_, rfl, by decide, by decide, w10 _ (by decide) (by decide)⟩
      · exact ⟨_, rfl, by decide, by decide, w10 _ (by decide) (by decide)⟩
      · exact ⟨_, rfl, by decide, by decide, w10 _ (by decide) (by decide)⟩
      · exact ⟨_, rfl, by decide, by decide, w10 _ (by decide) (by decide)⟩
      · exact ⟨_, rfl, by decide, by decide, w10 _ (by decide) (by decide)⟩
      · exact ⟨_, rfl, by decide, by decide, w10 _ (by decide) (by decide)⟩
      · exact ⟨_, rfl, by decide, by decide, by show (1000000000000000000000000000000000000000 + 1 : Int).natAbs < 2 ^ 200; decide +kernel⟩
    obtain ⟨bt, hbt, bt0, btx, wb⟩ := hy
    have em : H5 m = some (.lst [.int 3, .int 5, .int 6, .int 7, .int 12, .int 48, .int 96, .int (1000000000000000000000000000000000000000 + 1)]) := k5.get (st4.ne hm) upd_same
    have kk5 := kk4.trans (km.weak.trans k5)
    clear km k5
    repeat kaf_suf
    refine ⟨rfl, a, _, rfl, st5, by decide, w10 _ (by decide) (by decide), fun H6 u k6 st6 u0 u1 => ?_⟩
    repeat kaf_suf
    refine v_mulW (wb.cmul (w10 (u - 4) (by omega) (Nat.le_refl _)) (by decide)) ?_
    repeat kaf_suf
    intro p9 hp9
    refine k _ _ (1 + bt * (u - 4), bt) ((kk5.trans k6).new hp9) (st6.keep (Keep.alloc hp9)) ⟨p9, rfl, upd_same⟩ bt0 ?_
    by_cases big : 64 < bt
    · exact .inl big
    · refine .inr (.inl ⟨by show bt ≤ 64; omega, fun ⟨i, hi, e⟩ => ?_⟩)
      have := pow2_list hi
      have e : bt = 2 ^ i := e
      omega
  · repeat kaf_suf
    refine r_ite (fun p2 => ?_) (fun p2 => ?_)
    · repeat kaf_suf
      refine ⟨rfl, a, _, rfl, st4, by decide, w10 _ (by decide) (by decide), fun H5 u k5 st5 u0 u1 => ?_⟩
      repeat kaf_suf
      rw [e64]
      repeat kaf_suf
      intro m hm
      have km := Keep.alloc (M := Nil) (o := .lst [.int 128, .int 256, .int 18446744073709551616]) hm
      repeat kaf_suf
      refine ⟨rfl, a, _, rfl, st5.keep km, by decide, w10 _ (by decide) (by decide), fun H6 y k6 st6 y0 y1 => ?_⟩
      have hy : ∃ b : Int, atI [V.int 128, .int 256, .int 18446744073709551616] y = some (.int b) ∧ 64 < b := by
        have : y = 0 ∨ y = 1 ∨ y = 2 := by omega
        rcases this with rfl | rfl | rfl
        · exact ⟨_, rfl, by decide⟩
        · exact ⟨_, rfl, by decide⟩
        · exact ⟨_, rfl, by decide⟩
      obtain ⟨bt, hbt, bt0⟩ := hy
      have em : H6 m = some (.lst [.int 128, .int 256, .int 18446744073709551616]) := k6.get (st5.ne hm) upd_same
      repeat kaf_suf
      intro p9 hp9
      exact k _ _ (2 * u - 699, bt) ((kk4.trans (k5.trans (km.weak.trans k6))).new hp9) (st6.keep (Keep.alloc hp9)) ⟨p9, rfl, upd_same⟩ (by show 0 < bt; omega) (.inl bt0)
    · repeat kaf_suf
      refine ⟨rfl, a, _, rfl, st4, by decide, w10 _ (by decide) (by decide), fun H5 u k5 st5 u0 u1 => ?_⟩
      have sg : 2 * u - 1 = 1 ∨ 2 * u - 1 = -1 := by omega
      repeat kaf_suf
      generalize 2 * u - 1 = sn at sg ⊢
      have sn64 : -(2 ^ 64) < sn ∧ sn < 2 ^ 64 := by omega
      have bd : ∀ t b : Int, 0 < b → (∃ i, i ≤ 6 ∧ b = 2 ^ i) → 12 * b < t → BadF (sn * t, b) := fun t b b0 hb ht => .inr (.inr ⟨hb, by
        rcases sg with rfl | rfl
        · left; show 12 * b < 1 * t; omega
        · right; show 12 * b < -(-1 * t); omega⟩)
      refine r_ite (fun p3 => ?_) (fun p3 => ?_)
      · repeat kaf_suf
        intro p9 hp9
        exact k _ _ (sn * (12 * 2 ^ j + 1), 2 ^ j) ((kk4.trans k5).new hp9) (st5.keep (Keep.alloc hp9)) ⟨p9, rfl, upd_same⟩ (by show (0 : Int) < 2 ^ j; omega) (bd _ _ (by omega) ⟨j, hj, rfl⟩ (by omega))
      · repeat kaf_suf
        rw [e38]
        refine ⟨rfl, a, _, rfl, st5, by decide, by show (100000000000000000000000000000000000000 : Int).natAbs < 2 ^ 1000; decide +kernel, fun H6 y k6 st6 y0 y1 => ?_⟩
        repeat kaf_suf
        intro p9 hp9
        exact k _ _ (sn * (13 + y), 1) ((kk4.trans (k5.trans k6)).new hp9) (st6.keep (Keep.alloc hp9)) ⟨p9, rfl, upd_same⟩ (show (0 : Int) < 1 by decide) (bd _ _ (by decide) ⟨0, by decide, rfl⟩ (by omega))
theorem cal_law_bad {c : Cn} {mg : Str → Option Value} {base : Heap} (T : Txt c mg) : Cal c.P c.w c.K mg base CX0 2 "_law_bad" (sp_law_bad c) := by
  obtain ⟨f, fd, F, g, b⟩ := T.F_law_bad
  exact ⟨f, fd, ["store"], F.ok (k := 1) (N := N_law_bad) sc_law_bad (fun vs H Q E h => h.1) (fun cdv A outer s H vs Q E hr h => ⟨t_law_bad c, by
  exact (pss_cons (ps_set (i := 1) sc_law_bad.nd rfl (Or.inl rfl) (pe_ix (x_ix (hu64 hr)) (pe_lst (pa_cons pe_int (pa_cons pe_int (pa_cons pe_int (pa_cons pe_int (pa_cons pe_int (pa_cons pe_int (pa_cons pe_int pa_nil)))))))) (e_call (cal_law_take T) hr (by decide) pass0 rfl (pa_cons (pv 0) (pa_cons pe_int pa_nil))) (fun _ _ => rfl)))
  (pss_cons (ps_set (i := 2) sc_law_bad.nd rfl (Or.inl rfl) (e_call (cal_law_take T) hr (by decide) pass0 rfl (pa_cons (pv 0) (pa_cons pe_int pa_nil))))
  (pss_cons (ps_if (pt_cmpR (o_eq (hu64 hr)) (pv 2) pe_int (nomark _)) (pss_cons (ps_set (i := 1) sc_law_bad.nd rfl (Or.inl rfl) (pe_ix (x_ix (hu64 hr)) (pe_lst (pa_cons pe_int (pa_cons pe_int (pa_cons pe_int (pa_cons pe_int (pa_cons pe_int (pa_cons pe_int (pa_cons pe_int (pa_cons (pe_op o_add (pe_op o_pow pe_int pe_int) pe_int) pa_nil))))))))) (e_call (cal_law_take T) hr (by decide) pass0 rfl (pa_cons (pv 0) (pa_cons pe_int pa_nil))) (fun _ _ => rfl)))
  (pss_one (ps_ret (pe_tup (pa_cons (pe_op o_add pe_int (pe_op o_mul (pv 1) (pe_op o_sub (e_call (cal_law_take T) hr (by decide) pass0 rfl (pa_cons (pv 0) (pa_cons pe_int pa_nil))) pe_int))) (pa_cons (pv 1) pa_nil)))))) pss_nil)
  (pss_cons (ps_if (pt_cmpR (o_eq (hu64 hr)) (pv 2) pe_int (nomark _)) (pss_one (ps_ret (pe_tup (pa_cons (pe_op o_sub (pe_op o_mul pe_int (e_call (cal_law_take T) hr (by decide) pass0 rfl (pa_cons (pv 0) (pa_cons pe_int pa_nil)))) pe_int) (pa_cons (pe_ix (x_ix (hu64 hr)) (pe_lst (pa_cons pe_int (pa_cons pe_int (pa_cons (pe_op o_pow pe_int pe_int) pa_nil)))) (e_call (cal_law_take T) hr (by decide) pass0 rfl (pa_cons (pv 0) (pa_cons pe_int pa_nil))) (fun _ _ => rfl)) pa_nil))))) pss_nil)
  (pss_cons (ps_set (i := 3) sc_law_bad.nd rfl (Or.inl rfl) (pe_op o_sub (pe_op o_mul pe_int (e_call (cal_law_take T) hr (by decide) pass0 rfl (pa_cons (pv 0) (pa_cons pe_int pa_nil)))) pe_int))
  (pss_cons (ps_if (pt_cmpR (o_eq (hu64 hr)) (pv 2) pe_int (nomark _)) (pss_one (ps_ret (pe_tup (pa_cons (pe_op o_mul (pv 3) (pe_op o_add (pe_op o_mul pe_int (pv 1)) pe_int)) (pa_cons (pv 1) pa_nil))))) pss_nil)
  (pss_one (ps_ret (pe_tup (pa_cons (pe_op o_mul (pv 3) (pe_op o_add pe_int (e_call (cal_law_take T) hr (by decide) pass0 rfl (pa_cons (pv 0) (pa_cons (pe_op o_pow pe_int pe_int) pa_nil))))) (pa_cons pe_int pa_nil))))))))))), p_law_bad T h⟩), g, F.kp, b⟩
abbrev N_law_refused : List Str := ["book", "q", "good", "e"]
theorem sc_law_refused : FnScope N_law_refused ["book", "q"] (defScope s_law_refused) := ⟨rfl, rfl, rfl, by decide +kernel, rfl, by decide +kernel, by decide +kernel⟩
def t_law_refused (c : Cn) : TS :=
  (tSeq (tAsg (tC (.bl false)) (gName 2))
  (tSeq (tTryW c.K (.ref c.cNoNumber) 3
    (tSeq (tAsg (tAndV (tCB (uIsV c.K) (tCons (tVar 3) (tCons (tC (.ref c.cGameError)) tNil))) (tCB (uIsV c.K) (tCons (tVar 3) (tCons (tC (.ty "ValueError")) tNil)))) (gName 2))
  (tIfS (tOr (tTru c.K (tCB (uIsV c.K) (tCons (tVar 3) (tCons (tC (.ref c.cNoText)) tNil)))) (tOr (tTru c.K (tCB (uIsV c.K) (tCons (tVar 3) (tCons (tC (.ref c.cNoGame)) tNil)))) (tTru c.K (tCB (uIsV c.K) (tCons (tVar 3) (tCons (tC (.ref c.cNoName)) tNil))))))
  (tAsg (tC (.bl false)) (gName 2))
  tNext))
    (fun W => (tDrop (tCallW (sx_number_game c) W (tCons (tVar 0) (tCons (tVar 1) tNil))))))
  (tRet (tVar 2))))
def sp_law_refused (c : Cn) : Sp := fun vs H Q E => vs.length = 2 ∧ ∃ (b v : V) (q : Fr), vs = [b, v] ∧ FrV H v q ∧ 0 < q.2 ∧ BadF q ∧ ∀ (H' : Hp), Keep Nil H H' → Q (.bl true) H'
theorem p_law_refused {c : Cn} {mg : Str → Option Value} (T : Txt c mg) {vs : List V} {H : Hp} {Q : VK} {E : XK} (h : sp_law_refused c vs H Q E) : t_law_refused c { nx := fun _ H' => Q .non H', rt := Q } (start N_law_refused vs) H := by
  obtain ⟨_, b, v, q, rfl, fv, pos, bad, k⟩ := h
  unfold t_law_refused
  repeat kaf_suf
  refine ⟨rfl, .inr ⟨rfl, b, v, q, rfl, fv, pos, bad, w_valW (Txt.mm_NoNumber T) fun a ha => ?_⟩⟩
  have ex := Txt.e_NoNumber T
  have ha1 : (upd H a (ExV (.ref c.cNoNumber) a)) a = some (ExV (.ref c.cNoNumber) a) := upd_same
  repeat kaf_suf
  refine v_isV ha1 ex (.own _) (Txt.i_NoNumber_GameError T) ?_
  repeat kaf_suf
  refine v_isV ha1 ex (.ty _) (Txt.iv_NoNumber T) ?_
  repeat kaf_suf
  refine v_isV ha1 ex (.own _) (Txt.i_NoNumber_NoText T) ?_
  repeat kaf_suf
  refine v_isV ha1 ex (.own _) (Txt.i_NoNumber_NoGame T) ?_
  repeat kaf_suf
  refine v_isV ha1 ex (.own _) (Txt.i_NoNumber_NoName T) ?_
  repeat kaf_suf
  exact k _ (Keep.alloc ha)
theorem cal_law_refused {c : Cn} {mg : Str → Option Value} {base : Heap} (T : Txt c mg) : Cal c.P c.w c.K mg base CX0 15 "_law_refused" (sp_law_refused c) := by
  obtain ⟨f, fd, F, g, b⟩ := T.F_law_refused
  exact ⟨f, fd, ["book", "q"], F.ok (k := 14) (N := N_law_refused) sc_law_refused (fun vs H Q E h => h.1) (fun cdv A outer s H vs Q E hr h => ⟨t_law_refused c, by
  exact (pss_cons (ps_set (i := 2) sc_law_refused.nd rfl (Or.inl rfl) pe_bl)
  (pss_cons (ps_tryW (i := 3) rfl rfl sc_law_refused.nd rfl rfl ⟨rfl, by decide, .inl T.g_NoNumber⟩ rfl
    (fun W pn xe tk po => (pss_one (ps_expr (e_callS (calx_number_game T) hr (by decide) tk rfl (pa_cons (pv 0) (pa_cons (pv 1) pa_nil))))))
    (fun a pn => (pss_cons (ps_set (i := 2) sc_law_refused.nd rfl (Or.inl rfl) (pe_and (pe_callB k_isV (by rfl) T.n_isinstance (by decide +kernel) (pa_cons (pv 3) (pa_cons (pe_glob rfl T.g_GameError rfl) pa_nil))) (pe_one (pe_callB k_isV (by rfl) T.n_isinstance (by decide +kernel) (pa_cons (pv 3) (pa_cons (pe_bltn rfl T.n_ValueError (by decide +kernel) rfl) pa_nil))))))
  (pss_one (ps_if (PW.pt (pw_or (p_tru (pe_callB k_isV (by rfl) T.n_isinstance (by decide +kernel) (pa_cons (pv 3) (pa_cons (pe_glob rfl T.g_NoText rfl) pa_nil)))) (pw_or (p_tru (pe_callB k_isV (by rfl) T.n_isinstance (by decide +kernel) (pa_cons (pv 3) (pa_cons (pe_glob rfl T.g_NoGame rfl) pa_nil)))) (pw_or1 (p_tru (pe_callB k_isV (by rfl) T.n_isinstance (by decide +kernel) (pa_cons (pv 3) (pa_cons (pe_glob rfl T.g_NoName rfl) pa_nil)))))))) (pss_one (ps_set (i := 2) sc_law_refused.nd rfl (Or.inl rfl) pe_bl)) pss_nil)))))
  (pss_one (ps_ret (pv 2))))), p_law_refused T h⟩), g, F.kp, b⟩

theorem cal_law_walked {c : Cn} {mg : Str → Option Value} {base : Heap} (T : Txt c mg) : Cal c.P c.w c.K mg base CX0 7 "_law_walked" (sp_law_walked c) := by
  obtain ⟨f, fd, F, g, b⟩ := T.F_law_walked
  exact ⟨f, fd, ["book", "q", "g", "known"], F.ok (k := 6) (N := N_law_walked) sc_law_walked (fun vs H Q E h => h.1) (fun cdv A outer s H vs Q E hr h => ⟨t_law_walked c, by
  exact (pss_cons (ps_set (i := 4) sc_law_walked.nd rfl (Or.inl rfl) (pe_lst (pa_cons (pe_tup (pa_cons (pv 1) (pa_cons (pv 2) pa_nil))) pa_nil)))
  (pss_cons (ps_while PassesOwn.never (pt_cmpR (o_ne (hu64 hr)) (pv 4) (pe_lst pa_nil) (nomark _))
  (pss_cons (ps_asg (pe_bm0 PySem.F.plainAttrs_list PySem.F.slot_list_pop PySem.F.type_list_pop mt_pop (pv 4)) (g_seq rfl (pgs_cons (pg_name (i := 5) sc_law_walked.nd rfl (Or.inl rfl)) (pgs_cons (pg_name (i := 6) sc_law_walked.nd rfl (Or.inl rfl)) pgs_nil))))
  (pss_cons (ps_if (PW.pt (pw_or (pt_not (p_tru (e_call (cal_law_whole T) hr (by decide) pass0 rfl (pa_cons (pv 6) pa_nil)))) (pw_or (pt_cmpR (o_lt (hu64 hr)) (pv 6) pe_int (nomark _)) (pw_or1 (pt_cmpR o_ge (pv 6) (e_meth0 (met_Book_many T) hr (by decide) pass0 (pv 0)) (nomark _)))))) (pss_one (ps_ret pe_bl)) pss_nil)
  (C8.pss_cut (ps_if (pt_cmpR (o_notin (hu65 hr)) (pv 5) (pv 3) (by rfl)) (pss_cons (ps_asg (pv 6) (pg_sub (pv 3) (pv 5) (s_set (hu64 hr))))
  (pss_cons (ps_asg (e_call (cal_law_due T) hr (by decide) pass0 rfl (pa_cons (pv 5) pa_nil)) (g_seq rfl (pgs_cons (pg_name (i := 7) sc_law_walked.nd rfl (Or.inl rfl)) (pgs_cons (pg_name (i := 8) sc_law_walked.nd rfl (Or.inl rfl)) pgs_nil))))
  (pss_one (ps_for PassesOwn.never rfl (pi_any (pe_lst (pa_cons (pe_tup (pa_cons (e_meth (met_Book_lefts T) hr (by decide) passL (pv 0) (pa_cons (pv 6) pa_nil)) (pa_cons (pv 7) pa_nil))) (pa_cons (pe_tup (pa_cons (e_meth (met_Book_rights T) hr (by decide) passL (pv 0) (pa_cons (pv 6) pa_nil)) (pa_cons (pv 8) pa_nil))) pa_nil)))) (g_seq rfl (pgs_cons (pg_name (i := 9) sc_law_walked.nd rfl (Or.inl rfl)) (pgs_cons (pg_name (i := 10) sc_law_walked.nd rfl (Or.inl rfl)) pgs_nil)))
  (pss_cons (ps_if (pt_cmpR (o_ne (hu64 hr)) (pe_callB k_len (by rfl) T.n_len (by decide +kernel) (pa_cons (pv 9) pa_nil)) (pe_callB k_len (by rfl) T.n_len (by decide +kernel) (pa_cons (pv 10) pa_nil)) (nomark _)) (pss_one (ps_ret pe_bl)) pss_nil)
  (pss_one (ps_for PassesOwn.never rfl (pi_zip rfl T.n_zip (pa_cons (pv 9) (pa_cons (pv 10) pa_nil))) (g_seq rfl (pgs_cons (pg_name (i := 11) sc_law_walked.nd rfl (Or.inl rfl)) (pgs_cons (pg_name (i := 12) sc_law_walked.nd rfl (Or.inl rfl)) pgs_nil)))
  (pss_one (ps_expr (pe_bm PySem.F.plainAttrs_list PySem.F.slot_list_append PySem.F.type_list_append mt_append (pv 4) (pa_cons (pe_tup (pa_cons (pv 12) (pa_cons (pv 11) pa_nil))) pa_nil))))))))))) pss_nil)
  (pss_one (ps_if (pt_cmpR (o_ne (hu64 hr)) (pe_ix (x_ix (hu64 hr)) (pv 3) (pv 5) (fun _ _ => rfl)) (pv 6) (nomark _)) (pss_one (ps_ret pe_bl)) pss_nil))))))
  (pss_one (ps_ret (pe_cmpR (o_eq (hu64 hr)) (pe_ix (x_ix (hu64 hr)) (pv 3) (pv 1) (fun _ _ => rfl)) (pv 2) (nomark _)))))), p_law_walked T h⟩), g, F.kp, b⟩
/-! the law -/
structure LW (c : Cn) (H : Hp) (b d : Addr) (M : Addr → Prop) (gs : List Gm) (ds : List Int) (ks : List Fr) (H' : Hp) : Prop where
  k : Keep Nil H H'
  B : BookAt c H' b M gs ds
  K : KnAt H' d gs ks
theorem StA.book {c : Cn} {H H' : Hp} {p b : Addr} {M : Addr → Prop} {gs : List Gm} {ds : List Int} (B : BookAt c H b M gs ds) (s : StA H p) (n : ¬ M p) (k : Keep (fun y => y = p) H H') : BookAt c H' b M gs ds := by
  obtain ⟨g, z, m, e, _⟩ := s
  exact B.keep k (fun x h => by cases h; exact ⟨_, e⟩) fun x h h' => n (h' ▸ h)
theorem FrV.over {H H' : Hp} {v : V} {q : Fr} {p : Addr} (h : FrV H v q) (s : StA H p) (k : Keep (fun y => y = p) H H') : FrV H' v q := by
  obtain ⟨t, rfl, e⟩ := h
  obtain ⟨g, z, n, e2, _⟩ := s
  exact ⟨t, rfl, k.get (fun w => by have w : t = p := w; subst w; rw [e] at e2; cases e2) e⟩
theorem StA.over {M : Addr → Prop} {H H' : Hp} {p : Addr} (s : StA H p) (k : Keep M H H') (n : ¬ M p) : StA H' p := by
  obtain ⟨g, z, m, e, h⟩ := s
  exact ⟨g, z, m, k.get n e, h⟩
theorem StA.nK {H : Hp} {p d : Addr} {gs : List Gm} {ks : List Fr} (s : StA H p) (K : KnAt H d gs ks) : ¬ d = p := fun z => by
  obtain ⟨g, w, n, e, _⟩ := s
  obtain ⟨kvs, e', _⟩ := K.ex
  rw [z, e] at e'; cases e'
theorem keep0 {N : Addr → Prop} {H H1 H2 : Hp} (k : Keep Nil H H1) (k2 : Keep N H1 H2) (n : ∀ x, N x → H x = none) : Keep Nil H H2 := fun a o _ h => k2 a o (fun z => by rw [n a z] at h; cases h) (k a o (fun z => z) h)
def sp_law_law (K : PySem.W.Frag) : Sp := fun vs H Q E => vs.length = 1 ∧ ∃ (a : Addr) (ns : List Int), vs = [.ref a] ∧ SqL K H a (ns.map V.int) ∧ ns.length ≤ 63 ∧ ∀ H', Q (.bl true) H'
abbrev N_law : List Str := ["script", "book", "store", "k", "known", "q", "turn"]
theorem sc_law : FnScope N_law ["script"] (defScope s_law) := ⟨rfl, rfl, rfl, by decide +kernel, rfl, by decide +kernel, by decide +kernel⟩
def t_law (c : Cn) : TS :=
  (tSeq (tAsg (tMake c.cBook (sp_Book_init c) [] E0 tNil) (gName 1))
  (tSeq (tAsg (tCall (sp_law_store c) [] E0 (tCons (tCall (sp_law_cell c) [] E0 (tCons (tVar 0) (tCons (tC (.int 0)) tNil))) tNil)) (gName 2))
  (tSeq (tFor (iRng1 (tCons (tCall (sp_law_take c) [] E0 (tCons (tVar 2) (tCons (tC (.int 6)) tNil))) tNil)) (gName 3)
  (tDrop (tMeth c.cBook "game" (sp_Book_game c) [] E0 (tVar 1) (tCons (tLst (tCons (tCall (sp_law_take c) [] E0 (tCons (tVar 2) (tCons (tMeth c.cBook "many" (sp_Book_many c) [] E0 (tVar 1) tNil) tNil))) tNil)) (tCons (tLst (tCons (tCall (sp_law_take c) [] E0 (tCons (tVar 2) (tCons (tMeth c.cBook "many" (sp_Book_many c) [] E0 (tVar 1) tNil) tNil))) tNil)) tNil)))))
  (tSeq (tAsg (uDispT (tTup (tCons (tC (.int 0)) (tCons (tC (.int 1)) tNil))) (tC (.int 0))) (gName 4))
  (tSeq (tFor (iRng1 (tCons (tOp bMul (tCall (sp_law_take c) [] E0 (tCons (tVar 2) (tCons (tC (.int 2)) tNil))) (tCall (sp_law_take c) [] E0 (tCons (tVar 2) (tCons (tC (.int 4)) tNil)))) tNil)) (gName 3)
  (tDrop (tCall (sp_law_by_hand 20 c) [] E0 (tCons (tVar 1) (tCons (tCall (sp_law_bound c) [] E0 (tCons (tVar 2) (tCons (tC (.int 12)) (tCons (tC (.int 6)) tNil)))) (tCons (tVar 4) tNil))))))
  (tSeq (tFor (iRng1 (tCons (tCB (kMin c.K) (tCons (tCB (kMax c.K) (tCons (tCB (kLen c.K) (tCons (tVar 0) tNil)) (tCons (tC (.int 3)) tNil))) (tCons (tC (.int 30)) tNil))) tNil)) (gName 3)
  (tSeq (tAsg (tCall (sp_law_store c) [] E0 (tCons (tCall (sp_law_cell c) [] E0 (tCons (tVar 0) (tCons (tVar 3) tNil))) tNil)) (gName 2))
  (C8.tCut (tIfS (tTest (tOp (cEq c.K) (tCall (sp_law_take c) [] E0 (tCons (tVar 2) (tCons (tC (.int 3)) tNil))) (tC (.int 0))))
  (tIfS (tNot (tTru c.K (tCall (sp_law_refused c) [] E0 (tCons (tVar 1) (tCons (tCall (sp_law_bad c) [] E0 (tCons (tVar 2) tNil)) tNil)))))
  (tRet (tC (.bl false)))
  tNext)
  tNext)
  (tSeq (tAsg (tCall (sp_law_bound c) [] E0 (tCons (tVar 2) (tCons (tC (.int 12)) (tCons (tC (.int 6)) tNil)))) (gName 5))
  (tFor (iRng1 (tCons (tOp (bAdd c.K) (tC (.int 1)) (tCall (sp_law_take c) [] E0 (tCons (tVar 2) (tCons (tC (.int 2)) tNil)))) tNil)) (gName 6)
  (tIfS (tNot (tTru c.K (tCall (sp_law_walked c) [] E0 (tCons (tVar 1) (tCons (tVar 5) (tCons (tCall (sp_number_game c) [] E0 (tCons (tVar 1) (tCons (tVar 5) tNil))) (tCons (tVar 4) tNil)))))))
  (tRet (tC (.bl false)))
  tNext))))))
  (tRet (tCall (sp_law_of_the_book c) [] E0 (tCons (tVar 1) (tCons (tVar 4) tNil))))))))))
theorem p_law {c : Cn} {mg : Str → Option Value} (T : Txt c mg) {vs : List V} {H : Hp} {Q : VK} {E : XK} (h : sp_law_law c.K vs H Q E) : t_law c { nx := fun _ H' => Q .non H', rt := Q } (start N_law vs) H := by
  obtain ⟨_, a, ns, rfl, hs, few, k⟩ := h
  unfold t_law
  repeat kaf_suf
  intro b dx hb hdx ndx
  repeat kaf_suf
  have kb : Keep Nil H (upd (upd H dx (.own b)) b (.ins c.cBook dx [])) := (Keep.alloc hdx).setN hb
  have hb0 : H b = none := hb
  refine ⟨rfl, b, dx, rfl, upd_same, fun H1 M k1 B1 nB => ⟨rfl, ?_⟩⟩
  have nM : ∀ x, M x → H x = none := fun x h => keep_none kb (nB x h)
  have K1 : Keep Nil H H1 := keep0 kb k1 fun x h => by cases h; exact hb0
  clear k1 nB kb hb hdx
  repeat kaf_suf
  refine ⟨rfl, a, ns, 0, rfl, seq_keep K1 hs, few, by decide, fun z => ?_⟩
  repeat kaf_suf
  refine ⟨rfl, z, rfl, fun p H2 hp k2 st2 => ?_⟩
  have nMp : ¬ M p := B1.new hp
  have B2 := B1.same k2
  have K2 := K1.trans k2
  have hp0 := keep_none K1 hp
  clear k2 hp B1 K1
  repeat kaf_suf
  refine ⟨rfl, p, _, rfl, st2, by decide, w10 _ (by decide) (by decide), fun H3 n k3 st3 n0 n1 => ?_⟩
  have B3 := st2.book B2 nMp k3
  have K3 := keep0 K2 k3 fun x h => by cases h; exact hp0
  clear k3 st2 B2 K2
  repeat kaf_suf
  refine for_range (lo := 0) (n := n.toNat) (fun i σ H' => ∃ (o : Option V) (gs : List Gm) (ds : List Int), σ = [some (.ref a), some (.ref b), some (.ref p), o, none, none, none] ∧ Keep Nil H H' ∧ BookAt c H' b M gs ds ∧ StA H' p ∧ gs.length ≤ 1 + i) ⟨_, _, _, rfl, K3, B3, st3, Nat.le_refl _⟩ ?_ ?_
  · clear B3 st3 K3
    rintro i σ H3 hi ⟨o, gs, ds, rfl, K3, B3, st3, gl⟩
    have gp := B3.pos
    obtain ⟨dx3, mv3, nm3, dp3, hb3⟩ := B3.ins_
    repeat kaf_suf
    refine ⟨rfl, b, M, gs, ds, rfl, B3, ?_⟩
    repeat kaf_suf
    refine ⟨rfl, p, _, rfl, st3, by omega, w10 _ (by omega) (by decide), fun H4 x k4 st4 x0 x1 => ?_⟩
    have B4 := st3.book B3 nMp k4
    have K4 := keep0 K3 k4 fun x h => by cases h; exact hp0
    clear k4
    repeat kaf_suf
    intro l1 hl1
    have q1 := Keep.alloc (M := Nil) (o := .lst [.int x]) hl1
    have B5 := B4.same q1
    have nl1 := B4.new hl1
    have l1p : ¬ l1 = p := st4.ne hl1
    obtain ⟨dx5, mv5, nm5, dp5, hb5⟩ := B5.ins_
    repeat kaf_suf
    refine ⟨rfl, b, M, gs, ds, rfl, B5, ?_⟩
    repeat kaf_suf
    refine ⟨rfl, p, _, rfl, st4.keep q1, by omega, w10 _ (by omega) (by decide), fun H6 y k6 st6 y0 y1 => ?_⟩
    have B6 := (st4.keep q1).book B5 nMp k6
    have K6 := keep0 (K4.trans q1) k6 fun x h => by cases h; exact hp0
    have el1 : H6 l1 = some (.lst [.int x]) := k6.get l1p upd_same
    clear k6 hb5 B5 q1 B4 K4 hl1 st4
    repeat kaf_suf
    intro l2 hl2
    have q2 := Keep.alloc (M := Nil) (o := .lst [.int y]) hl2
    obtain ⟨f, ef, fl, _⟩ := addG_grow (gs := gs) (k := (canon [x], canon [y]))
    repeat kaf_suf
    refine ⟨rfl, b, l1, l2, M, gs, ds, [x], [y], rfl, B6.same q2, q2.get (fun z => z) el1, upd_same, nl1, B6.new hl2, by omega, by simp, by simp, fun m hm => by simp at hm; omega, fun H7 e k7 B7 => ?_⟩
    repeat kaf_suf
    refine ⟨_, _, _, rfl, keep0 (K6.trans q2) k7 nM, B7, (st6.keep q2).over k7 nMp, ?_⟩
    rw [ef, List.length_append]
    omega
  clear B3 st3 K3
  rintro σ H3 ⟨o, gs, ds, rfl, K3, B3, st3, gl⟩
  repeat kaf_suf
  intro d hd
  repeat kaf_suf
  intro t0 ht0
  have q1 := Keep.alloc (M := Nil) (o := .dT []) hd
  repeat kaf_suf
  refine ⟨pk (0, 1), t0, rfl, get_new ht0 upd_same, upd_same, ?_⟩
  have hd0 := keep_none K3 hd
  have q2 := q1.new (o := .tup [.int 0, .int 1]) ht0
  have q3 : Keep Nil H3 (upd (upd (upd H3 d (.dT [])) t0 (.tup [.int 0, .int 1])) d (.dT [(pk (0, 1), .int 0)])) := q2.setN hd
  have Kn : KnAt (upd (upd (upd H3 d (.dT [])) t0 (.tup [.int 0, .int 1])) d (.dT [(pk (0, 1), .int 0)])) d gs [(0, 1)] := ⟨⟨_, upd_same, rfl, fun q hq => by cases List.mem_singleton.mp hq; exact ⟨0, rfl, numG_zero B3.ok⟩⟩, by simp, fun q hq => by cases List.mem_singleton.mp hq; exact ⟨0, nmQ_int (by decide) (by decide)⟩⟩
  have L4 : LW c H b d M gs ds [(0, 1)] (upd (upd (upd H3 d (.dT [])) t0 (.tup [.int 0, .int 1])) d (.dT [(pk (0, 1), .int 0)])) := ⟨K3.trans q3, B3.same q3, Kn⟩
  have st4 := st3.keep q3
  generalize upd (upd (upd H3 d (.dT [])) t0 (.tup [.int 0, .int 1])) d (.dT [(pk (0, 1), .int 0)]) = H4 at L4 st4 ⊢
  clear Kn q1 q2 q3 K3 B3 st3 hd ht0
  have hide : ∀ {H1 H2 : Hp}, Keep Nil H H1 → Keep (MD M d) H1 H2 → Keep Nil H H2 := fun k1 k2 => keep0 k1 k2 fun x h => h.elim (nM x) fun h => by rw [h]; exact hd0
  have ndM : ∀ {x : Addr}, H x = none → True := fun _ => trivial
  repeat kaf_suf
  refine ⟨rfl, p, _, rfl, st4, by decide, w10 _ (by decide) (by decide), fun H5 x k5 st5 x0 x1 => ?_⟩
  repeat kaf_suf
  refine ⟨rfl, p, _, rfl, st5, by decide, w10 _ (by decide) (by decide), fun H6 y k6 st6 y0 y1 => ?_⟩
  have L6 : LW c H b d M gs ds [(0, 1)] H6 := by
    have k56 := k5.trans k6
    exact ⟨keep0 L4.k k56 fun x h => by cases h; exact hp0, st4.book L4.B nMp k56, L4.K.keep k56 (st4.nK L4.K)⟩
  clear k5 k6 st4 st5 L4
  have xy : 0 ≤ x * y ∧ x * y ≤ 3 := by
    have : x = 0 ∨ x = 1 := by omega
    rcases this with rfl | rfl <;> omega
  repeat kaf_suf
  generalize x * y = xy' at xy ⊢
  repeat kaf_suf
  refine for_range (lo := 0) (n := xy'.toNat) (fun i σ H' => ∃ (o : Option V) (gs : List Gm) (ds : List Int) (ks : List Fr), σ = [some (.ref a), some (.ref b), some (.ref p), o, some (.ref d), none, none] ∧ LW c H b d M gs ds ks H' ∧ StA H' p ∧ gs.length ≤ 6 + 1023 * i) ⟨_, _, _, _, rfl, L6, st6, by omega⟩ ?_ ?_
  · clear L6 st6
    rintro i σ H3 hi ⟨o, gs, ds, ks, rfl, L3, st3, gl⟩
    repeat kaf_suf
    refine ⟨rfl, p, rfl, st3, fun H4 v q iq k4 st4 fq nq => ?_⟩
    have B4 := st3.book L3.B nMp k4
    have Kn4 := L3.K.keep k4 (st3.nK L3.K)
    have K4 := keep0 L3.k k4 fun x h => by cases h; exact hp0
    clear k4 L3
    have c6 : 2 ^ iq ≤ 2 ^ 6 := Nat.pow_le_pow_right (by decide) nq.le
    have c6' : 2 ^ iq ≤ 64 := c6
    have cq := cst_le nq
    repeat kaf_suf
    refine ⟨rfl, b, d, M, gs, ds, v, q, iq, ks, rfl, B4, Kn4, fq, nq, ?_, by omega, fun H5 f e g ks' k5 B5 K5 fl ng => ?_⟩
    · unfold rk
      have := nq.le
      split
      · rename_i z
        subst z
        obtain ⟨_, u, v⟩ := nq.whole
        omega
      · omega
    repeat kaf_suf
    exact ⟨_, _, _, _, rfl, ⟨hide K4 k5, B5, K5⟩, st4.over k5 (fun z => z.elim nMp fun z => st4.nK Kn4 z.symm), by rw [List.length_append]; omega⟩
  clear L6 st6
  rintro σ H3 ⟨o, gs, ds, ks, rfl, L3, st3, gl⟩
  have gl : gs.length ≤ 4000 := by omega
  clear st3
  repeat kaf_suf
  have s3 := seq_keep L3.k hs
  repeat kaf_suf
  have m1 : (if 3 > ((ns.map V.int).length : Int) then (3 : Int) else ((ns.map V.int).length : Int)) ≤ 63 ∧ 0 ≤ (if 3 > ((ns.map V.int).length : Int) then (3 : Int) else ((ns.map V.int).length : Int)) := by rw [List.length_map]; split <;> omega
  generalize (if 3 > ((ns.map V.int).length : Int) then (3 : Int) else ((ns.map V.int).length : Int)) = m at m1 ⊢
  have m2 : (if 30 < m then 30 else m) ≤ 30 ∧ 0 ≤ (if 30 < m then 30 else m) := by split <;> omega
  generalize (if 30 < m then 30 else m) = mm at m2 ⊢
  repeat kaf_suf
  refine for_range (lo := 0) (n := mm.toNat) (fun i σ H' => ∃ (x2 x3 x5 x6 : Option V) (gs : List Gm) (ds : List Int) (ks : List Fr), σ = [some (.ref a), some (.ref b), x2, x3, some (.ref d), x5, x6] ∧ LW c H b d M gs ds ks H' ∧ gs.length ≤ 4000 + 1662 * i) ⟨_, _, _, _, _, _, _, rfl, L3, by omega⟩ ?_ ?_
  rotate_left
  · rintro σ H4 ⟨x2, x3, x5, x6, gs, ds, ks, rfl, L4, gl⟩
    repeat kaf_suf
    refine ⟨rfl, b, d, M, gs, ds, ks, rfl, L4.B, L4.K, by omega, fun H5 => ?_⟩
    repeat kaf_suf
    exact k _
  clear L3 s3
  rintro i σ H3 hi ⟨x2, x3, x5, x6, gs, ds, ks, rfl, L3, gl⟩
  repeat kaf_suf
  refine ⟨rfl, a, ns, i, by rw [Int.zero_add], seq_keep L3.k hs, few, by omega, fun z => ?_⟩
  repeat kaf_suf
  refine ⟨rfl, z, rfl, fun p H4 hp k4 st4 => ?_⟩
  have nMp : ¬ M p := L3.B.new hp
  have hp0 := keep_none L3.k hp
  have L4 : LW c H b d M gs ds ks H4 := ⟨L3.k.trans k4, L3.B.same k4, L3.K.keep k4 fun z => z⟩
  clear k4 L3 hp
  have stp : ∀ {H1 H2 : Hp} {gs : List Gm} {ds : List Int} {ks : List Fr}, LW c H b d M gs ds ks H1 → StA H1 p → Keep (fun y => y = p) H1 H2 → LW c H b d M gs ds ks H2 := fun L st k => ⟨keep0 L.k k fun x h => by cases h; exact hp0, st.book L.B nMp k, L.K.keep k (st.nK L.K)⟩
  repeat kaf_suf
  refine ⟨fun σ H' => ∃ (x5 x6 : Option V), σ = [some (.ref a), some (.ref b), some (.ref p), some (.int (0 + (i : Int))), some (.ref d), x5, x6] ∧ LW c H b d M gs ds ks H' ∧ StA H' p, ?_, ?_⟩
  · repeat kaf_suf
    refine ⟨rfl, p, _, rfl, st4, by decide, w10 _ (by decide) (by decide), fun H5 x k5 st5 x0 x1 => ?_⟩
    have L5 := stp L4 st4 k5
    repeat kaf_suf
    refine r_ite (fun pp => ?_) (fun pp => ?_)
    · repeat kaf_suf
      refine ⟨rfl, p, rfl, st5, fun H6 v q k6 st6 fq pos bad => ?_⟩
      have L6 := stp L5 st5 k6
      repeat kaf_suf
      refine ⟨rfl, .ref b, v, q, rfl, fq, pos, bad, fun H7 k7 => ?_⟩
      repeat kaf_suf
      exact ⟨_, _, rfl, ⟨L6.k.trans k7, L6.B.same k7, L6.K.keep k7 fun z => z⟩, st6.keep k7⟩
    · repeat kaf_suf
      exact ⟨_, _, rfl, L5, st5⟩
  clear st4 L4
  rintro σ H4 ⟨x5, x6, rfl, L4, st4⟩
  repeat kaf_suf
  refine ⟨rfl, p, rfl, st4, fun H5 v q iq k5 st5 fq nq => ?_⟩
  have L5 := stp L4 st4 k5
  clear L4 st4 k5
  repeat kaf_suf
  refine ⟨rfl, p, _, rfl, st5, by decide, w10 _ (by decide) (by decide), fun H6 x k6 st6 x0 x1 => ?_⟩
  have L6 := stp L5 st5 k6
  have fq6 := fq.over st5 k6
  clear L5 st5 k6 fq
  repeat kaf_suf
  refine for_range (lo := 0) (n := (1 + x).toNat) (fun j σ H' => ∃ (x6 : Option V) (gs : List Gm) (ds : List Int) (ks : List Fr), σ = [some (.ref a), some (.ref b), some (.ref p), some (.int (0 + (i : Int))), some (.ref d), some v, x6] ∧ LW c H b d M gs ds ks H' ∧ FrV H' v q ∧ gs.length ≤ 4000 + 1662 * i + 831 * j) ⟨_, _, _, _, rfl, L6, fq6, by omega⟩ ?_ ?_
  · clear L6 fq6 st6
    rintro j σ H6 hj ⟨x6, gs, ds, ks, rfl, L6, fq6, gl⟩
    repeat kaf_suf
    refine ⟨rfl, b, M, gs, ds, v, q, iq, rfl, L6.B, fq6, nq, by omega, fun H7 f e g k7 B7 fl ng => ?_⟩
    have fq7 := fq6.book L6.B k7
    have Kn7 := (L6.K.keep k7 (L6.K.nM L6.B)).more (f := f)
    have K7 := keep0 L6.k k7 nM
    repeat kaf_suf
    refine ⟨rfl, b, d, M, _, _, v, q, iq, g, ks, rfl, B7, Kn7, fq7, nq, ng, by rw [List.length_append]; omega, fun H8 ks8 k8 K8 => ?_⟩
    have nMd := Kn7.nM B7
    have B8 : BookAt c H8 b M (gs ++ f) (ds ++ e) := B7.keepY k8 (fun x z => by
      cases z
      obtain ⟨kvs, e, _⟩ := Kn7.ex
      rw [e]
      exact ⟨fun l z => (by cases z), fun C d l z => (by cases z)⟩) fun x m z => nMd (z ▸ m)
    have fq8 : FrV H8 v q := fq7.keepM k8 fun t e z => by
      have z : t = d := z
      obtain ⟨kvs, e', _⟩ := Kn7.ex
      rw [z, e'] at e; cases e
    repeat kaf_suf
    exact ⟨_, _, _, _, rfl, ⟨keep0 K7 k8 fun x h => by cases h; exact hd0, B8, K8⟩, fq8, by rw [List.length_append]; omega⟩
  · rintro σ H7 ⟨x6, gs', ds', ks', rfl, L7, _, gl7⟩
    repeat kaf_suf
    exact ⟨_, _, _, _, _, _, _, rfl, L7, by omega⟩
theorem ok_law {c : Cn} {mg : Str → Option Value} {base : Heap} {f : Addr} {fd : FuncData} (T : Txt c mg) (F : Fun c.K "law" "law" s_law f fd) : FnOk c.P c.w c.K mg base CX0 31 f fd ["script"] (sp_law_law c.K) :=
  F.ok (k := 30) (N := N_law) sc_law (fun vs H Q E h => h.1) (fun cdv A outer s H vs Q E hr h => ⟨t_law c, by
  exact (pss_cons (ps_set (i := 1) sc_law.nd rfl (Or.inl rfl) (e_make0 (mak_Book T) hr (by decide) pass0 rfl))
  (pss_cons (ps_set (i := 2) sc_law.nd rfl (Or.inl rfl) (e_call (cal_law_store T) hr (by decide) pass0 rfl (pa_cons (e_call (cal_law_cell T) hr (by decide) pass0 rfl (pa_cons (pv 0) (pa_cons pe_int pa_nil))) pa_nil)))
  (pss_cons (ps_for PassesOwn.never rfl (pi_range1 rfl T.n_range (pa_cons (e_call (cal_law_take T) hr (by decide) pass0 rfl (pa_cons (pv 2) (pa_cons pe_int pa_nil))) pa_nil)) (pg_name (i := 3) sc_law.nd rfl (Or.inl rfl))
  (pss_one (ps_expr (e_meth (met_Book_game T) hr (by decide) passL (pv 1) (pa_cons (pe_lst (pa_cons (e_call (cal_law_take T) hr (by decide) pass0 rfl (pa_cons (pv 2) (pa_cons (e_meth0 (met_Book_many T) hr (by decide) pass0 (pv 1)) pa_nil))) pa_nil)) (pa_cons (pe_lst (pa_cons (e_call (cal_law_take T) hr (by decide) pass0 rfl (pa_cons (pv 2) (pa_cons (e_meth0 (met_Book_many T) hr (by decide) pass0 (pv 1)) pa_nil))) pa_nil)) pa_nil))))))
  (pss_cons (ps_set (i := 4) sc_law.nd rfl (Or.inl rfl) (pe_dispT (hu64 hr) (pe_tup (pa_cons pe_int (pa_cons pe_int pa_nil))) pe_int))
  (pss_cons (ps_for PassesOwn.never rfl (pi_range1 rfl T.n_range (pa_cons (pe_op o_mul (e_call (cal_law_take T) hr (by decide) pass0 rfl (pa_cons (pv 2) (pa_cons pe_int pa_nil))) (e_call (cal_law_take T) hr (by decide) pass0 rfl (pa_cons (pv 2) (pa_cons pe_int pa_nil)))) pa_nil)) (pg_name (i := 3) sc_law.nd rfl (Or.inl rfl))
  (pss_one (ps_expr (e_call (cal_law_by_hand T 20) hr (by decide) pass0 rfl (pa_cons (pv 1) (pa_cons (e_call (cal_law_bound T) hr (by decide) pass0 rfl (pa_cons (pv 2) (pa_cons pe_int (pa_cons pe_int pa_nil)))) (pa_cons (pv 4) pa_nil)))))))
  (pss_cons (ps_for PassesOwn.never rfl (pi_range1 rfl T.n_range (pa_cons (pe_callB (k_min rfl) (by rfl) T.n_min (by decide +kernel) (pa_cons (pe_callB (k_max rfl) (by rfl) T.n_max (by decide +kernel) (pa_cons (pe_callB k_len (by rfl) T.n_len (by decide +kernel) (pa_cons (pv 0) pa_nil)) (pa_cons pe_int pa_nil))) (pa_cons pe_int pa_nil))) pa_nil)) (pg_name (i := 3) sc_law.nd rfl (Or.inl rfl))
  (pss_cons (ps_set (i := 2) sc_law.nd rfl (Or.inl rfl) (e_call (cal_law_store T) hr (by decide) pass0 rfl (pa_cons (e_call (cal_law_cell T) hr (by decide) pass0 rfl (pa_cons (pv 0) (pa_cons (pv 3) pa_nil))) pa_nil)))
  (C8.pss_cut (ps_if (pt_cmpR (o_eq (hu64 hr)) (e_call (cal_law_take T) hr (by decide) pass0 rfl (pa_cons (pv 2) (pa_cons pe_int pa_nil))) pe_int (nomark _)) (pss_one (ps_if (pt_not (p_tru (e_call (cal_law_refused T) hr (by decide) pass0 rfl (pa_cons (pv 1) (pa_cons (e_call (cal_law_bad T) hr (by decide) pass0 rfl (pa_cons (pv 2) pa_nil)) pa_nil))))) (pss_one (ps_ret pe_bl)) pss_nil)) pss_nil)
  (pss_cons (ps_set (i := 5) sc_law.nd rfl (Or.inl rfl) (e_call (cal_law_bound T) hr (by decide) pass0 rfl (pa_cons (pv 2) (pa_cons pe_int (pa_cons pe_int pa_nil)))))
  (pss_one (ps_for PassesOwn.never rfl (pi_range1 rfl T.n_range (pa_cons (pe_op o_add pe_int (e_call (cal_law_take T) hr (by decide) pass0 rfl (pa_cons (pv 2) (pa_cons pe_int pa_nil)))) pa_nil)) (pg_name (i := 6) sc_law.nd rfl (Or.inl rfl))
  (pss_one (ps_if (pt_not (p_tru (e_call (cal_law_walked T) hr (by decide) pass0 rfl (pa_cons (pv 1) (pa_cons (pv 5) (pa_cons (e_call (cal_number_game T) hr (by decide) passL rfl (pa_cons (pv 1) (pa_cons (pv 5) pa_nil))) (pa_cons (pv 4) pa_nil))))))) (pss_one (ps_ret pe_bl)) pss_nil))))))))
  (pss_one (ps_ret (e_call (cal_law_of_the_book T) hr (by decide) pass0 rfl (pa_cons (pv 1) (pa_cons (pv 4) pa_nil))))))))))), p_law T h⟩)
theorem all_mk {l : PySem.W.OpenLaw} {w : World} {K : PySem.W.Frag} {h : Heap} {mg : Str → Option Value} {fa : Addr} (X : K.In h) (G : h.Ns mainGlobals mg) (hfa : mg "law" = some (.ref fa))
    {aGameError aNoGame aNoNumber aNoText aNoName aBook : Addr}
    {tk_GREATEST : _}
    {tk_GREATEST_BOTTOM : _}
    {f_law_cell : Addr} {od_law_cell an_law_cell : Option Addr} {sl_law_cell : Array (Option Value)} {oc_law_cell kV_law_cell dc_law_cell pm_law_cell cd_law_cell ct_law_cell : Value}
    {f_law_store : Addr} {od_law_store an_law_store : Option Addr} {sl_law_store : Array (Option Value)} {oc_law_store kV_law_store dc_law_store pm_law_store cd_law_store ct_law_store : Value}
    {f_law_take : Addr} {od_law_take an_law_take : Option Addr} {sl_law_take : Array (Option Value)} {oc_law_take kV_law_take dc_law_take pm_law_take cd_law_take ct_law_take : Value}
    {f_Book_need : Addr} {od_Book_need an_Book_need : Option Addr} {sl_Book_need : Array (Option Value)} {oc_Book_need kV_Book_need dc_Book_need pm_Book_need cd_Book_need ct_Book_need : Value}
    {f_Book_game : Addr} {od_Book_game an_Book_game : Option Addr} {sl_Book_game : Array (Option Value)} {oc_Book_game kV_Book_game dc_Book_game pm_Book_game cd_Book_game ct_Book_game : Value}
    {f_Book_init : Addr} {od_Book_init an_Book_init : Option Addr} {sl_Book_init : Array (Option Value)} {oc_Book_init kV_Book_init dc_Book_init pm_Book_init cd_Book_init ct_Book_init : Value}
    {f_Book_many : Addr} {od_Book_many an_Book_many : Option Addr} {sl_Book_many : Array (Option Value)} {oc_Book_many kV_Book_many dc_Book_many pm_Book_many cd_Book_many ct_Book_many : Value}
    {f_fraction : Addr} {od_fraction an_fraction : Option Addr} {sl_fraction : Array (Option Value)} {oc_fraction kV_fraction dc_fraction pm_fraction cd_fraction ct_fraction : Value}
    {f_is_bound : Addr} {od_is_bound an_is_bound : Option Addr} {sl_is_bound : Array (Option Value)} {oc_is_bound kV_is_bound dc_is_bound pm_is_bound cd_is_bound ct_is_bound : Value}
    {f_whole_game : Addr} {od_whole_game an_whole_game : Option Addr} {sl_whole_game : Array (Option Value)} {oc_whole_game kV_whole_game dc_whole_game pm_whole_game cd_whole_game ct_whole_game : Value}
    {f_put_number : Addr} {od_put_number an_put_number : Option Addr} {sl_put_number : Array (Option Value)} {oc_put_number kV_put_number dc_put_number pm_put_number cd_put_number ct_put_number : Value}
    {f_number_game : Addr} {od_number_game an_number_game : Option Addr} {sl_number_game : Array (Option Value)} {oc_number_game kV_number_game dc_number_game pm_number_game cd_number_game ct_number_game : Value}
    {f_law_whole : Addr} {od_law_whole an_law_whole : Option Addr} {sl_law_whole : Array (Option Value)} {oc_law_whole kV_law_whole dc_law_whole pm_law_whole cd_law_whole ct_law_whole : Value}
    {f_law_halved : Addr} {od_law_halved an_law_halved : Option Addr} {sl_law_halved : Array (Option Value)} {oc_law_halved kV_law_halved dc_law_halved pm_law_halved cd_law_halved ct_law_halved : Value}
    {f_law_bound : Addr} {od_law_bound an_law_bound : Option Addr} {sl_law_bound : Array (Option Value)} {oc_law_bound kV_law_bound dc_law_bound pm_law_bound cd_law_bound ct_law_bound : Value}
    {f_law_due : Addr} {od_law_due an_law_due : Option Addr} {sl_law_due : Array (Option Value)} {oc_law_due kV_law_due dc_law_due pm_law_due cd_law_due ct_law_due : Value}
    {f_law_walked : Addr} {od_law_walked an_law_walked : Option Addr} {sl_law_walked : Array (Option Value)} {oc_law_walked kV_law_walked dc_law_walked pm_law_walked cd_law_walked ct_law_walked : Value}
    {f_law_by_hand : Addr} {od_law_by_hand an_law_by_hand : Option Addr} {sl_law_by_hand : Array (Option Value)} {oc_law_by_hand kV_law_by_hand dc_law_by_hand pm_law_by_hand cd_law_by_hand ct_law_by_hand : Value}
    {f_law_of_the_book : Addr} {od_law_of_the_book an_law_of_the_book : Option Addr} {sl_law_of_the_book : Array (Option Value)} {oc_law_of_the_book kV_law_of_the_book dc_law_of_the_book pm_law_of_the_book cd_law_of_the_book ct_law_of_the_book : Value}
    {f_law_bad : Addr} {od_law_bad an_law_bad : Option Addr} {sl_law_bad : Array (Option Value)} {oc_law_bad kV_law_bad dc_law_bad pm_law_bad cd_law_bad ct_law_bad : Value}
    {f_law_refused : Addr} {od_law_refused an_law_refused : Option Addr} {sl_law_refused : Array (Option Value)} {oc_law_refused kV_law_refused dc_law_refused pm_law_refused cd_law_refused ct_law_refused : Value}
    {f_Book_lefts : Addr} {od_Book_lefts an_Book_lefts : Option Addr} {sl_Book_lefts : Array (Option Value)} {oc_Book_lefts kV_Book_lefts dc_Book_lefts pm_Book_lefts cd_Book_lefts ct_Book_lefts : Value}
    {f_Book_rights : Addr} {od_Book_rights an_Book_rights : Option Addr} {sl_Book_rights : Array (Option Value)} {oc_Book_rights kV_Book_rights dc_Book_rights pm_Book_rights cd_Book_rights ct_Book_rights : Value}
    {f_Book_depth : Addr} {od_Book_depth an_Book_depth : Option Addr} {sl_Book_depth : Array (Option Value)} {oc_Book_depth kV_Book_depth dc_Book_depth pm_Book_depth cd_Book_depth ct_Book_depth : Value}
    {f_law : Addr} {od_law an_law : Option Addr} {sl_law : Array (Option Value)} {oc_law kV_law dc_law pm_law cd_law ct_law : Value}
    (a_GameError : PySem.W.nsIn K mainGlobals "GameError" = some (some (.ref aGameError)))
    (a_NoGame : PySem.W.nsIn K mainGlobals "NoGame" = some (some (.ref aNoGame)))
    (a_NoNumber : PySem.W.nsIn K mainGlobals "NoNumber" = some (some (.ref aNoNumber)))
    (a_NoText : PySem.W.nsIn K mainGlobals "NoText" = some (some (.ref aNoText)))
    (a_NoName : PySem.W.nsIn K mainGlobals "NoName" = some (some (.ref aNoName)))
    (a_Book : PySem.W.nsIn K mainGlobals "Book" = some (some (.ref aBook)))
    (pg_Book : PySem.W.plainGet K aBook Str.empty = true)
    (hd_Book : PySem.W.hasDictIn K aBook = true)
    (po_Book : PySem.W.plainOver K aBook = true)
    (sa_Book : PySem.W.findIn K (.ref aBook) "__setattr__" = some (some (.builtin "object.__setattr__")))
    (mk_Book : PySem.W.makesIn K aBook = true)
    (kc_Book : PySem.W.keepIn K (.ref aBook) = true)
    (na_Book_depths : PySem.W.findIn K (.ref aBook) "depths" = some none)
    (na_Book_moves : PySem.W.findIn K (.ref aBook) "moves" = some none)
    (na_Book_numbers : PySem.W.findIn K (.ref aBook) "numbers" = some none)
    (xk_GameError : PySem.W.keepIn K (.ref aGameError) = true)
    (xx_GameError : PySem.W.excIn K aGameError [.type "ValueError", .type "Exception", .type "BaseException", .type "object"] "ValueError.__new__" = true)
    (xb_GameError : PySem.W.subIn K (.ref aGameError) (.type "BaseException") = some true)
    (xt_GameError : PySem.W.typeIn K (.ref aGameError) = some (.type "type"))
    (xd_GameError : PySem.W.hasDictIn K aGameError = true)
    (xs_GameError : PySem.W.subIn K (.ref aGameError) (.ref aGameError) = some true)
    (xk_NoGame : PySem.W.keepIn K (.ref aNoGame) = true)
    (xx_NoGame : PySem.W.excIn K aNoGame [.type "ValueError", .type "Exception", .type "BaseException", .type "object"] "ValueError.__new__" = true)
    (xb_NoGame : PySem.W.subIn K (.ref aNoGame) (.type "BaseException") = some true)
    (xt_NoGame : PySem.W.typeIn K (.ref aNoGame) = some (.type "type"))
    (xd_NoGame : PySem.W.hasDictIn K aNoGame = true)
    (xs_NoGame : PySem.W.subIn K (.ref aNoGame) (.ref aGameError) = some true)
    (xk_NoName : PySem.W.keepIn K (.ref aNoName) = true)
    (xx_NoName : PySem.W.excIn K aNoName [.type "ValueError", .type "Exception", .type "BaseException", .type "object"] "ValueError.__new__" = true)
    (xb_NoName : PySem.W.subIn K (.ref aNoName) (.type "BaseException") = some true)
    (xt_NoName : PySem.W.typeIn K (.ref aNoName) = some (.type "type"))
    (xd_NoName : PySem.W.hasDictIn K aNoName = true)
    (xs_NoName : PySem.W.subIn K (.ref aNoName) (.ref aGameError) = some true)
    (xk_NoNumber : PySem.W.keepIn K (.ref aNoNumber) = true)
    (xx_NoNumber : PySem.W.excIn K aNoNumber [.type "ValueError", .type "Exception", .type "BaseException", .type "object"] "ValueError.__new__" = true)
    (xb_NoNumber : PySem.W.subIn K (.ref aNoNumber) (.type "BaseException") = some true)
    (xt_NoNumber : PySem.W.typeIn K (.ref aNoNumber) = some (.type "type"))
    (xd_NoNumber : PySem.W.hasDictIn K aNoNumber = true)
    (xs_NoNumber : PySem.W.subIn K (.ref aNoNumber) (.ref aGameError) = some true)
    (xk_NoText : PySem.W.keepIn K (.ref aNoText) = true)
    (xx_NoText : PySem.W.excIn K aNoText [.type "ValueError", .type "Exception", .type "BaseException", .type "object"] "ValueError.__new__" = true)
    (xb_NoText : PySem.W.subIn K (.ref aNoText) (.type "BaseException") = some true)
    (xt_NoText : PySem.W.typeIn K (.ref aNoText) = some (.type "type"))
    (xd_NoText : PySem.W.hasDictIn K aNoText = true)
    (xs_NoText : PySem.W.subIn K (.ref aNoText) (.ref aGameError) = some true)
    (x_get : PySem.W.specialIn K (.builtin "object.__class__") "__get__" = some (some (.builtin "getset_descriptor.__get__")))
    (x_tak : PySem.W.takesIn K (.builtin "object.__class__") = some true)
    (ya_GameError : PySem.W.findIn K (.ref aGameError) "__getattribute__" = some (some (.builtin "BaseException.__getattribute__")))
    (yg_GameError : PySem.W.findIn K (.ref aGameError) "__getattr__" = some none)
    (yc_GameError : PySem.W.findIn K (.ref aGameError) "__class__" = some (some (.builtin "object.__class__")))
    (ym_GameError : PySem.W.mroIn K aGameError (.type "object") = some true)
    (yv_GameError : PySem.W.kitOne K (.ref aGameError) (.type "ValueError") = some true)
    (yi_GameError_GameError : PySem.W.kitOne K (.ref aGameError) (.ref aGameError) = some true)
    (yi_GameError_NoGame : PySem.W.kitOne K (.ref aGameError) (.ref aNoGame) = some false)
    (yi_GameError_NoName : PySem.W.kitOne K (.ref aGameError) (.ref aNoName) = some false)
    (yi_GameError_NoNumber : PySem.W.kitOne K (.ref aGameError) (.ref aNoNumber) = some false)
    (yi_GameError_NoText : PySem.W.kitOne K (.ref aGameError) (.ref aNoText) = some false)
    (ya_NoGame : PySem.W.findIn K (.ref aNoGame) "__getattribute__" = some (some (.builtin "BaseException.__getattribute__")))
    (yg_NoGame : PySem.W.findIn K (.ref aNoGame) "__getattr__" = some none)
    (yc_NoGame : PySem.W.findIn K (.ref aNoGame) "__class__" = some (some (.builtin "object.__class__")))
    (ym_NoGame : PySem.W.mroIn K aNoGame (.type "object") = some true)
    (yv_NoGame : PySem.W.kitOne K (.ref aNoGame) (.type "ValueError") = some true)
    (yi_NoGame_GameError : PySem.W.kitOne K (.ref aNoGame) (.ref aGameError) = some true)
    (yi_NoGame_NoGame : PySem.W.kitOne K (.ref aNoGame) (.ref aNoGame) = some true)
    (yi_NoGame_NoName : PySem.W.kitOne K (.ref aNoGame) (.ref aNoName) = some false)
    (yi_NoGame_NoNumber : PySem.W.kitOne K (.ref aNoGame) (.ref aNoNumber) = some false)
    (yi_NoGame_NoText : PySem.W.kitOne K (.ref aNoGame) (.ref aNoText) = some false)
    (ya_NoName : PySem.W.findIn K (.ref aNoName) "__getattribute__" = some (some (.builtin "BaseException.__getattribute__")))
    (yg_NoName : PySem.W.findIn K (.ref aNoName) "__getattr__" = some none)
    (yc_NoName : PySem.W.findIn K (.ref aNoName) "__class__" = some (some (.builtin "object.__class__")))
    (ym_NoName : PySem.W.mroIn K aNoName (.type "object") = some true)
    (yv_NoName : PySem.W.kitOne K (.ref aNoName) (.type "ValueError") = some true)
    (yi_NoName_GameError : PySem.W.kitOne K (.ref aNoName) (.ref aGameError) = some true)
    (yi_NoName_NoGame : PySem.W.kitOne K (.ref aNoName) (.ref aNoGame) = some false)
    (yi_NoName_NoName : PySem.W.kitOne K (.ref aNoName) (.ref aNoName) = some true)
    (yi_NoName_NoNumber : PySem.W.kitOne K (.ref aNoName) (.ref aNoNumber) = some false)
    (yi_NoName_NoText : PySem.W.kitOne K (.ref aNoName) (.ref aNoText) = some false)
    (ya_NoNumber : PySem.W.findIn K (.ref aNoNumber) "__getattribute__" = some (some (.builtin "BaseException.__getattribute__")))
    (yg_NoNumber : PySem.W.findIn K (.ref aNoNumber) "__getattr__" = some none)
    (yc_NoNumber : PySem.W.findIn K (.ref aNoNumber) "__class__" = some (some (.builtin "object.__class__")))
    (ym_NoNumber : PySem.W.mroIn K aNoNumber (.type "object") = some true)
    (ys_NoNumber : PySem.W.subIn K (.ref aNoNumber) (.ref aNoNumber) = some true)
    (yv_NoNumber : PySem.W.kitOne K (.ref aNoNumber) (.type "ValueError") = some true)
    (yi_NoNumber_GameError : PySem.W.kitOne K (.ref aNoNumber) (.ref aGameError) = some true)
    (yi_NoNumber_NoGame : PySem.W.kitOne K (.ref aNoNumber) (.ref aNoGame) = some false)
    (yi_NoNumber_NoName : PySem.W.kitOne K (.ref aNoNumber) (.ref aNoName) = some false)
    (yi_NoNumber_NoNumber : PySem.W.kitOne K (.ref aNoNumber) (.ref aNoNumber) = some true)
    (yi_NoNumber_NoText : PySem.W.kitOne K (.ref aNoNumber) (.ref aNoText) = some false)
    (ya_NoText : PySem.W.findIn K (.ref aNoText) "__getattribute__" = some (some (.builtin "BaseException.__getattribute__")))
    (yg_NoText : PySem.W.findIn K (.ref aNoText) "__getattr__" = some none)
    (yc_NoText : PySem.W.findIn K (.ref aNoText) "__class__" = some (some (.builtin "object.__class__")))
    (ym_NoText : PySem.W.mroIn K aNoText (.type "object") = some true)
    (yv_NoText : PySem.W.kitOne K (.ref aNoText) (.type "ValueError") = some true)
    (yi_NoText_GameError : PySem.W.kitOne K (.ref aNoText) (.ref aGameError) = some true)
    (yi_NoText_NoGame : PySem.W.kitOne K (.ref aNoText) (.ref aNoGame) = some false)
    (yi_NoText_NoName : PySem.W.kitOne K (.ref aNoText) (.ref aNoName) = some false)
    (yi_NoText_NoNumber : PySem.W.kitOne K (.ref aNoText) (.ref aNoNumber) = some false)
    (yi_NoText_NoText : PySem.W.kitOne K (.ref aNoText) (.ref aNoText) = some true)
    (n_ValueError : PySem.W.nsIn K mainGlobals "ValueError" = some none)
    (n_abs : PySem.W.nsIn K mainGlobals "abs" = some none)
    (n_bool : PySem.W.nsIn K mainGlobals "bool" = some none)
    (n_int : PySem.W.nsIn K mainGlobals "int" = some none)
    (n_isinstance : PySem.W.nsIn K mainGlobals "isinstance" = some none)
    (n_len : PySem.W.nsIn K mainGlobals "len" = some none)
    (n_list : PySem.W.nsIn K mainGlobals "list" = some none)
    (n_max : PySem.W.nsIn K mainGlobals "max" = some none)
    (n_min : PySem.W.nsIn K mainGlobals "min" = some none)
    (n_range : PySem.W.nsIn K mainGlobals "range" = some none)
    (n_set : PySem.W.nsIn K mainGlobals "set" = some none)
    (n_sorted : PySem.W.nsIn K mainGlobals "sorted" = some none)
    (n_tuple : PySem.W.nsIn K mainGlobals "tuple" = some none)
    (n_zip : PySem.W.nsIn K mainGlobals "zip" = some none)
    (v_GREATEST : PySem.W.nsIn K mainGlobals "GREATEST" = some (some (.int 12 tk_GREATEST)))
    (v_GREATEST_BOTTOM : PySem.W.nsIn K mainGlobals "GREATEST_BOTTOM" = some (some (.int 64 tk_GREATEST_BOTTOM)))
    (a_law_cell : PySem.W.nsIn K mainGlobals "_law_cell" = some (some (.ref f_law_cell)))
    (l_law_cell : K.lookup f_law_cell = some ⟨oc_law_cell, od_law_cell, .func (PySem.W.fnOf "_law_cell" "_law_cell" (defArgs s_law_cell) (defBody s_law_cell) (defScope s_law_cell) .none kV_law_cell dc_law_cell pm_law_cell an_law_cell cd_law_cell ct_law_cell), sl_law_cell⟩)
    (c_law_cell : PySem.W.codeIn K cd_law_cell "_law_cell" = true)
    (k_law_cell : PySem.W.keepIn K (.ref f_law_cell) = true)
    (a_law_store : PySem.W.nsIn K mainGlobals "_law_store" = some (some (.ref f_law_store)))
    (l_law_store : K.lookup f_law_store = some ⟨oc_law_store, od_law_store, .func (PySem.W.fnOf "_law_store" "_law_store" (defArgs s_law_store) (defBody s_law_store) (defScope s_law_store) .none kV_law_store dc_law_store pm_law_store an_law_store cd_law_store ct_law_store), sl_law_store⟩)
    (c_law_store : PySem.W.codeIn K cd_law_store "_law_store" = true)
    (k_law_store : PySem.W.keepIn K (.ref f_law_store) = true)
    (a_law_take : PySem.W.nsIn K mainGlobals "_law_take" = some (some (.ref f_law_take)))
    (l_law_take : K.lookup f_law_take = some ⟨oc_law_take, od_law_take, .func (PySem.W.fnOf "_law_take" "_law_take" (defArgs s_law_take) (defBody s_law_take) (defScope s_law_take) .none kV_law_take dc_law_take pm_law_take an_law_take cd_law_take ct_law_take), sl_law_take⟩)
    (c_law_take : PySem.W.codeIn K cd_law_take "_law_take" = true)
    (k_law_take : PySem.W.keepIn K (.ref f_law_take) = true)
    (a_Book_need : PySem.W.findIn K (.ref aBook) "need" = some (some (.ref f_Book_need)))
    (i_Book_need : PySem.W.isFn K (.ref f_Book_need) = true)
    (l_Book_need : K.lookup f_Book_need = some ⟨oc_Book_need, od_Book_need, .func (PySem.W.fnOf "need" "Book.need" (defArgs s_Book_need) (defBody s_Book_need) (defScope s_Book_need) .none kV_Book_need dc_Book_need pm_Book_need an_Book_need cd_Book_need ct_Book_need), sl_Book_need⟩)
    (c_Book_need : PySem.W.codeIn K cd_Book_need "Book.need" = true)
    (k_Book_need : PySem.W.keepIn K (.ref f_Book_need) = true)
    (a_Book_game : PySem.W.findIn K (.ref aBook) "game" = some (some (.ref f_Book_game)))
    (i_Book_game : PySem.W.isFn K (.ref f_Book_game) = true)
    (l_Book_game : K.lookup f_Book_game = some ⟨oc_Book_game, od_Book_game, .func (PySem.W.fnOf "game" "Book.game" (defArgs s_Book_game) (defBody s_Book_game) (defScope s_Book_game) .none kV_Book_game dc_Book_game pm_Book_game an_Book_game cd_Book_game ct_Book_game), sl_Book_game⟩)
    (c_Book_game : PySem.W.codeIn K cd_Book_game "Book.game" = true)
    (k_Book_game : PySem.W.keepIn K (.ref f_Book_game) = true)
    (a_Book_init : PySem.W.findIn K (.ref aBook) "__init__" = some (some (.ref f_Book_init)))
    (i_Book_init : PySem.W.isFn K (.ref f_Book_init) = true)
    (l_Book_init : K.lookup f_Book_init = some ⟨oc_Book_init, od_Book_init, .func (PySem.W.fnOf "__init__" "Book.__init__" (defArgs s_Book_init) (defBody s_Book_init) (defScope s_Book_init) .none kV_Book_init dc_Book_init pm_Book_init an_Book_init cd_Book_init ct_Book_init), sl_Book_init⟩)
    (c_Book_init : PySem.W.codeIn K cd_Book_init "Book.__init__" = true)
    (k_Book_init : PySem.W.keepIn K (.ref f_Book_init) = true)
    (a_Book_many : PySem.W.findIn K (.ref aBook) "many" = some (some (.ref f_Book_many)))
    (i_Book_many : PySem.W.isFn K (.ref f_Book_many) = true)
    (l_Book_many : K.lookup f_Book_many = some ⟨oc_Book_many, od_Book_many, .func (PySem.W.fnOf "many" "Book.many" (defArgs s_Book_many) (defBody s_Book_many) (defScope s_Book_many) .none kV_Book_many dc_Book_many pm_Book_many an_Book_many cd_Book_many ct_Book_many), sl_Book_many⟩)
    (c_Book_many : PySem.W.codeIn K cd_Book_many "Book.many" = true)
    (k_Book_many : PySem.W.keepIn K (.ref f_Book_many) = true)
    (a_fraction : PySem.W.nsIn K mainGlobals "fraction" = some (some (.ref f_fraction)))
    (l_fraction : K.lookup f_fraction = some ⟨oc_fraction, od_fraction, .func (PySem.W.fnOf "fraction" "fraction" (defArgs s_fraction) (defBody s_fraction) (defScope s_fraction) .none kV_fraction dc_fraction pm_fraction an_fraction cd_fraction ct_fraction), sl_fraction⟩)
    (c_fraction : PySem.W.codeIn K cd_fraction "fraction" = true)
    (k_fraction : PySem.W.keepIn K (.ref f_fraction) = true)
    (a_is_bound : PySem.W.nsIn K mainGlobals "is_bound" = some (some (.ref f_is_bound)))
    (l_is_bound : K.lookup f_is_bound = some ⟨oc_is_bound, od_is_bound, .func (PySem.W.fnOf "is_bound" "is_bound" (defArgs s_is_bound) (defBody s_is_bound) (defScope s_is_bound) .none kV_is_bound dc_is_bound pm_is_bound an_is_bound cd_is_bound ct_is_bound), sl_is_bound⟩)
    (c_is_bound : PySem.W.codeIn K cd_is_bound "is_bound" = true)
    (k_is_bound : PySem.W.keepIn K (.ref f_is_bound) = true)
    (a_whole_game : PySem.W.nsIn K mainGlobals "whole_game" = some (some (.ref f_whole_game)))
    (l_whole_game : K.lookup f_whole_game = some ⟨oc_whole_game, od_whole_game, .func (PySem.W.fnOf "whole_game" "whole_game" (defArgs s_whole_game) (defBody s_whole_game) (defScope s_whole_game) .none kV_whole_game dc_whole_game pm_whole_game an_whole_game cd_whole_game ct_whole_game), sl_whole_game⟩)
    (c_whole_game : PySem.W.codeIn K cd_whole_game "whole_game" = true)
    (k_whole_game : PySem.W.keepIn K (.ref f_whole_game) = true)
    (a_put_number : PySem.W.nsIn K mainGlobals "put_number" = some (some (.ref f_put_number)))
    (l_put_number : K.lookup f_put_number = some ⟨oc_put_number, od_put_number, .func (PySem.W.fnOf "put_number" "put_number" (defArgs s_put_number) (defBody s_put_number) (defScope s_put_number) .none kV_put_number dc_put_number pm_put_number an_put_number cd_put_number ct_put_number), sl_put_number⟩)
    (c_put_number : PySem.W.codeIn K cd_put_number "put_number" = true)
    (k_put_number : PySem.W.keepIn K (.ref f_put_number) = true)
    (a_number_game : PySem.W.nsIn K mainGlobals "number_game" = some (some (.ref f_number_game)))
    (l_number_game : K.lookup f_number_game = some ⟨oc_number_game, od_number_game, .func (PySem.W.fnOf "number_game" "number_game" (defArgs s_number_game) (defBody s_number_game) (defScope s_number_game) .none kV_number_game dc_number_game pm_number_game an_number_game cd_number_game ct_number_game), sl_number_game⟩)
    (c_number_game : PySem.W.codeIn K cd_number_game "number_game" = true)
    (k_number_game : PySem.W.keepIn K (.ref f_number_game) = true)
    (a_law_whole : PySem.W.nsIn K mainGlobals "_law_whole" = some (some (.ref f_law_whole)))
    (l_law_whole : K.lookup f_law_whole = some ⟨oc_law_whole, od_law_whole, .func (PySem.W.fnOf "_law_whole" "_law_whole" (defArgs s_law_whole) (defBody s_law_whole) (defScope s_law_whole) .none kV_law_whole dc_law_whole pm_law_whole an_law_whole cd_law_whole ct_law_whole), sl_law_whole⟩)
    (c_law_whole : PySem.W.codeIn K cd_law_whole "_law_whole" = true)
    (k_law_whole : PySem.W.keepIn K (.ref f_law_whole) = true)
    (a_law_halved : PySem.W.nsIn K mainGlobals "_law_halved" = some (some (.ref f_law_halved)))
    (l_law_halved : K.lookup f_law_halved = some ⟨oc_law_halved, od_law_halved, .func (PySem.W.fnOf "_law_halved" "_law_halved" (defArgs s_law_halved) (defBody s_law_halved) (defScope s_law_halved) .none kV_law_halved dc_law_halved pm_law_halved an_law_halved cd_law_halved ct_law_halved), sl_law_halved⟩)
    (c_law_halved : PySem.W.codeIn K cd_law_halved "_law_halved" = true)
    (k_law_halved : PySem.W.keepIn K (.ref f_law_halved) = true)
    (a_law_bound : PySem.W.nsIn K mainGlobals "_law_bound" = some (some (.ref f_law_bound)))
    (l_law_bound : K.lookup f_law_bound = some ⟨oc_law_bound, od_law_bound, .func (PySem.W.fnOf "_law_bound" "_law_bound" (defArgs s_law_bound) (defBody s_law_bound) (defScope s_law_bound) .none kV_law_bound dc_law_bound pm_law_bound an_law_bound cd_law_bound ct_law_bound), sl_law_bound⟩)
    (c_law_bound : PySem.W.codeIn K cd_law_bound "_law_bound" = true)
    (k_law_bound : PySem.W.keepIn K (.ref f_law_bound) = true)
    (a_law_due : PySem.W.nsIn K mainGlobals "_law_due" = some (some (.ref f_law_due)))
    (l_law_due : K.lookup f_law_due = some ⟨oc_law_due, od_law_due, .func (PySem.W.fnOf "_law_due" "_law_due" (defArgs s_law_due) (defBody s_law_due) (defScope s_law_due) .none kV_law_due dc_law_due pm_law_due an_law_due cd_law_due ct_law_due), sl_law_due⟩)
    (c_law_due : PySem.W.codeIn K cd_law_due "_law_due" = true)
    (k_law_due : PySem.W.keepIn K (.ref f_law_due) = true)
    (a_law_walked : PySem.W.nsIn K mainGlobals "_law_walked" = some (some (.ref f_law_walked)))
    (l_law_walked : K.lookup f_law_walked = some ⟨oc_law_walked, od_law_walked, .func (PySem.W.fnOf "_law_walked" "_law_walked" (defArgs s_law_walked) (defBody s_law_walked) (defScope s_law_walked) .none kV_law_walked dc_law_walked pm_law_walked an_law_walked cd_law_walked ct_law_walked), sl_law_walked⟩)
    (c_law_walked : PySem.W.codeIn K cd_law_walked "_law_walked" = true)
    (k_law_walked : PySem.W.keepIn K (.ref f_law_walked) = true)
    (a_law_by_hand : PySem.W.nsIn K mainGlobals "_law_by_hand" = some (some (.ref f_law_by_hand)))
    (l_law_by_hand : K.lookup f_law_by_hand = some ⟨oc_law_by_hand, od_law_by_hand, .func (PySem.W.fnOf "_law_by_hand" "_law_by_hand" (defArgs s_law_by_hand) (defBody s_law_by_hand) (defScope s_law_by_hand) .none kV_law_by_hand dc_law_by_hand pm_law_by_hand an_law_by_hand cd_law_by_hand ct_law_by_hand), sl_law_by_hand⟩)
    (c_law_by_hand : PySem.W.codeIn K cd_law_by_hand "_law_by_hand" = true)
    (k_law_by_hand : PySem.W.keepIn K (.ref f_law_by_hand) = true)
    (a_law_of_the_book : PySem.W.nsIn K mainGlobals "_law_of_the_book" = some (some (.ref f_law_of_the_book)))
    (l_law_of_the_book : K.lookup f_law_of_the_book = some ⟨oc_law_of_the_book, od_law_of_the_book, .func (PySem.W.fnOf "_law_of_the_book" "_law_of_the_book" (defArgs s_law_of_the_book) (defBody s_law_of_the_book) (defScope s_law_of_the_book) .none kV_law_of_the_book dc_law_of_the_book pm_law_of_the_book an_law_of_the_book cd_law_of_the_book ct_law_of_the_book), sl_law_of_the_book⟩)
    (c_law_of_the_book : PySem.W.codeIn K cd_law_of_the_book "_law_of_the_book" = true)
    (k_law_of_the_book : PySem.W.keepIn K (.ref f_law_of_the_book) = true)
    (a_law_bad : PySem.W.nsIn K mainGlobals "_law_bad" = some (some (.ref f_law_bad)))
    (l_law_bad : K.lookup f_law_bad = some ⟨oc_law_bad, od_law_bad, .func (PySem.W.fnOf "_law_bad" "_law_bad" (defArgs s_law_bad) (defBody s_law_bad) (defScope s_law_bad) .none kV_law_bad dc_law_bad pm_law_bad an_law_bad cd_law_bad ct_law_bad), sl_law_bad⟩)
    (c_law_bad : PySem.W.codeIn K cd_law_bad "_law_bad" = true)
    (k_law_bad : PySem.W.keepIn K (.ref f_law_bad) = true)
    (a_law_refused : PySem.W.nsIn K mainGlobals "_law_refused" = some (some (.ref f_law_refused)))
    (l_law_refused : K.lookup f_law_refused = some ⟨oc_law_refused, od_law_refused, .func (PySem.W.fnOf "_law_refused" "_law_refused" (defArgs s_law_refused) (defBody s_law_refused) (defScope s_law_refused) .none kV_law_refused dc_law_refused pm_law_refused an_law_refused cd_law_refused ct_law_refused), sl_law_refused⟩)
    (c_law_refused : PySem.W.codeIn K cd_law_refused "_law_refused" = true)
    (k_law_refused : PySem.W.keepIn K (.ref f_law_refused) = true)
    (a_Book_lefts : PySem.W.findIn K (.ref aBook) "lefts" = some (some (.ref f_Book_lefts)))
    (i_Book_lefts : PySem.W.isFn K (.ref f_Book_lefts) = true)
    (l_Book_lefts : K.lookup f_Book_lefts = some ⟨oc_Book_lefts, od_Book_lefts, .func (PySem.W.fnOf "lefts" "Book.lefts" (defArgs s_Book_lefts) (defBody s_Book_lefts) (defScope s_Book_lefts) .none kV_Book_lefts dc_Book_lefts pm_Book_lefts an_Book_lefts cd_Book_lefts ct_Book_lefts), sl_Book_lefts⟩)
    (c_Book_lefts : PySem.W.codeIn K cd_Book_lefts "Book.lefts" = true)
    (k_Book_lefts : PySem.W.keepIn K (.ref f_Book_lefts) = true)
    (a_Book_rights : PySem.W.findIn K (.ref aBook) "rights" = some (some (.ref f_Book_rights)))
    (i_Book_rights : PySem.W.isFn K (.ref f_Book_rights) = true)
    (l_Book_rights : K.lookup f_Book_rights = some ⟨oc_Book_rights, od_Book_rights, .func (PySem.W.fnOf "rights" "Book.rights" (defArgs s_Book_rights) (defBody s_Book_rights) (defScope s_Book_rights) .none kV_Book_rights dc_Book_rights pm_Book_rights an_Book_rights cd_Book_rights ct_Book_rights), sl_Book_rights⟩)
    (c_Book_rights : PySem.W.codeIn K cd_Book_rights "Book.rights" = true)
    (k_Book_rights : PySem.W.keepIn K (.ref f_Book_rights) = true)
    (a_Book_depth : PySem.W.findIn K (.ref aBook) "depth" = some (some (.ref f_Book_depth)))
    (i_Book_depth : PySem.W.isFn K (.ref f_Book_depth) = true)
    (l_Book_depth : K.lookup f_Book_depth = some ⟨oc_Book_depth, od_Book_depth, .func (PySem.W.fnOf "depth" "Book.depth" (defArgs s_Book_depth) (defBody s_Book_depth) (defScope s_Book_depth) .none kV_Book_depth dc_Book_depth pm_Book_depth an_Book_depth cd_Book_depth ct_Book_depth), sl_Book_depth⟩)
    (c_Book_depth : PySem.W.codeIn K cd_Book_depth "Book.depth" = true)
    (k_Book_depth : PySem.W.keepIn K (.ref f_Book_depth) = true)
    (a_law : PySem.W.nsIn K mainGlobals "law" = some (some (.ref f_law)))
    (l_law : K.lookup f_law = some ⟨oc_law, od_law, .func (PySem.W.fnOf "law" "law" (defArgs s_law) (defBody s_law) (defScope s_law) .none kV_law dc_law pm_law an_law cd_law ct_law), sl_law⟩)
    (c_law : PySem.W.codeIn K cd_law "law" = true)
    (k_law : PySem.W.keepIn K (.ref f_law) = true)
    : ∃ fd : FuncData, (∀ (s : Shared) (v : Value), BindsTo s fd ⟨[v], []⟩ [("script", v)]) ∧ ∀ base : Heap, K.In base → base.Ns mainGlobals mg → FnOk l.prog w K mg base CX0 31 fa fd ["script"] (sp_law_law K) := by
  have e := hfa.symm.trans (PySem.W.mg_of X G a_law)
  cases e
  let c : Cn := { P := l.prog, w := w, K := K, cGameError := aGameError, cNoGame := aNoGame, cNoNumber := aNoNumber, cNoText := aNoText, cNoName := aNoName, cBook := aBook }
  have T : Txt c mg := { n_ValueError := PySem.W.mg_none_of X G n_ValueError, n_abs := PySem.W.mg_none_of X G n_abs, n_bool := PySem.W.mg_none_of X G n_bool, n_int := PySem.W.mg_none_of X G n_int, n_isinstance := PySem.W.mg_none_of X G n_isinstance, n_len := PySem.W.mg_none_of X G n_len, n_list := PySem.W.mg_none_of X G n_list, n_max := PySem.W.mg_none_of X G n_max, n_min := PySem.W.mg_none_of X G n_min, n_range := PySem.W.mg_none_of X G n_range, n_set := PySem.W.mg_none_of X G n_set, n_sorted := PySem.W.mg_none_of X G n_sorted, n_tuple := PySem.W.mg_none_of X G n_tuple, n_zip := PySem.W.mg_none_of X G n_zip, g_GameError := PySem.W.mg_of X G a_GameError, g_NoGame := PySem.W.mg_of X G a_NoGame, g_NoNumber := PySem.W.mg_of X G a_NoNumber, g_NoText := PySem.W.mg_of X G a_NoText, g_NoName := PySem.W.mg_of X G a_NoName, g_Book := PySem.W.mg_of X G a_Book, g_GREATEST := ⟨_, PySem.W.mg_of X G v_GREATEST⟩, g_GREATEST_BOTTOM := ⟨_, PySem.W.mg_of X G v_GREATEST_BOTTOM⟩, x_GameError := ⟨PySem.W.mg_of X G a_GameError, xx_GameError, xk_GameError, xb_GameError, xt_GameError⟩, m_GameError := PySem.W.exm_ref xb_GameError xd_GameError xt_GameError xs_GameError, x_NoGame := ⟨PySem.W.mg_of X G a_NoGame, xx_NoGame, xk_NoGame, xb_NoGame, xt_NoGame⟩, m_NoGame := PySem.W.exm_ref xb_GameError xd_GameError xt_GameError xs_NoGame, x_NoName := ⟨PySem.W.mg_of X G a_NoName, xx_NoName, xk_NoName, xb_NoName, xt_NoName⟩, m_NoName := PySem.W.exm_ref xb_GameError xd_GameError xt_GameError xs_NoName, x_NoNumber := ⟨PySem.W.mg_of X G a_NoNumber, xx_NoNumber, xk_NoNumber, xb_NoNumber, xt_NoNumber⟩, m_NoNumber := PySem.W.exm_ref xb_GameError xd_GameError xt_GameError xs_NoNumber, x_NoText := ⟨PySem.W.mg_of X G a_NoText, xx_NoText, xk_NoText, xb_NoText, xt_NoText⟩, m_NoText := PySem.W.exm_ref xb_GameError xd_GameError xt_GameError xs_NoText, e_GameError := ⟨ya_GameError, yg_GameError, xb_GameError, xd_GameError, yc_GameError, x_get, x_tak, ym_GameError⟩, iv_GameError := yv_GameError, i_GameError_GameError := yi_GameError_GameError, i_GameError_NoGame := yi_GameError_NoGame, i_GameError_NoName := yi_GameError_NoName, i_GameError_NoNumber := yi_GameError_NoNumber, i_GameError_NoText := yi_GameError_NoText, e_NoGame := ⟨ya_NoGame, yg_NoGame, xb_NoGame, xd_NoGame, yc_NoGame, x_get, x_tak, ym_NoGame⟩, iv_NoGame := yv_NoGame, i_NoGame_GameError := yi_NoGame_GameError, i_NoGame_NoGame := yi_NoGame_NoGame, i_NoGame_NoName := yi_NoGame_NoName, i_NoGame_NoNumber := yi_NoGame_NoNumber, i_NoGame_NoText := yi_NoGame_NoText, e_NoName := ⟨ya_NoName, yg_NoName, xb_NoName, xd_NoName, yc_NoName, x_get, x_tak, ym_NoName⟩, iv_NoName := yv_NoName, i_NoName_GameError := yi_NoName_GameError, i_NoName_NoGame := yi_NoName_NoGame, i_NoName_NoName := yi_NoName_NoName, i_NoName_NoNumber := yi_NoName_NoNumber, i_NoName_NoText := yi_NoName_NoText, e_NoNumber := ⟨ya_NoNumber, yg_NoNumber, xb_NoNumber, xd_NoNumber, yc_NoNumber, x_get, x_tak, ym_NoNumber⟩, iv_NoNumber := yv_NoNumber, mm_NoNumber := PySem.W.exm_ref xb_NoNumber xd_NoNumber xt_NoNumber ys_NoNumber, i_NoNumber_GameError := yi_NoNumber_GameError, i_NoNumber_NoGame := yi_NoNumber_NoGame, i_NoNumber_NoName := yi_NoNumber_NoName, i_NoNumber_NoNumber := yi_NoNumber_NoNumber, i_NoNumber_NoText := yi_NoNumber_NoText, e_NoText := ⟨ya_NoText, yg_NoText, xb_NoText, xd_NoText, yc_NoText, x_get, x_tak, ym_NoText⟩, iv_NoText := yv_NoText, i_NoText_GameError := yi_NoText_GameError, i_NoText_NoGame := yi_NoText_NoGame, i_NoText_NoName := yi_NoText_NoName, i_NoText_NoNumber := yi_NoText_NoNumber, i_NoText_NoText := yi_NoText_NoText, cl_Book := ⟨pg_Book, hd_Book, po_Book, sa_Book⟩, na_Book_depths := na_Book_depths, na_Book_moves := na_Book_moves, na_Book_numbers := na_Book_numbers, F_law_cell := ⟨_, _, fun_mk (st := s_law_cell) l_law_cell c_law_cell k_law_cell, PySem.W.mg_of X G a_law_cell, ((fun_mk (st := s_law_cell) l_law_cell c_law_cell k_law_cell).binds (ps := ["script", "k"]) fun _ _ _ _ _ _ us hl => match us, hl with | [_, _], _ => rfl)⟩, F_law_store := ⟨_, _, fun_mk (st := s_law_store) l_law_store c_law_store k_law_store, PySem.W.mg_of X G a_law_store, ((fun_mk (st := s_law_store) l_law_store c_law_store k_law_store).binds (ps := ["cell"]) fun _ _ _ _ _ _ us hl => match us, hl with | [_], _ => rfl)⟩, F_law_take := ⟨_, _, fun_mk (st := s_law_take) l_law_take c_law_take k_law_take, PySem.W.mg_of X G a_law_take, ((fun_mk (st := s_law_take) l_law_take c_law_take k_law_take).binds (ps := ["store", "many"]) fun _ _ _ _ _ _ us hl => match us, hl with | [_, _], _ => rfl)⟩, F_Book_need := ⟨_, _, fun_mk (st := s_Book_need) l_Book_need c_Book_need k_Book_need, ⟨a_Book_need, i_Book_need, k_Book_need⟩, ((fun_mk (st := s_Book_need) l_Book_need c_Book_need k_Book_need).binds (ps := ["self", "g"]) fun _ _ _ _ _ _ us hl => match us, hl with | [_, _], _ => rfl)⟩, F_Book_game := ⟨_, _, fun_mk (st := s_Book_game) l_Book_game c_Book_game k_Book_game, ⟨a_Book_game, i_Book_game, k_Book_game⟩, ((fun_mk (st := s_Book_game) l_Book_game c_Book_game k_Book_game).binds (ps := ["self", "lefts", "rights"]) fun _ _ _ _ _ _ us hl => match us, hl with | [_, _, _], _ => rfl)⟩, F_Book_init := ⟨_, _, fun_mk (st := s_Book_init) l_Book_init c_Book_init k_Book_init, ⟨mk_Book, a_Book_init, i_Book_init, kc_Book⟩, ((fun_mk (st := s_Book_init) l_Book_init c_Book_init k_Book_init).binds (ps := ["self"]) fun _ _ _ _ _ _ us hl => match us, hl with | [_], _ => rfl)⟩, F_Book_many := ⟨_, _, fun_mk (st := s_Book_many) l_Book_many c_Book_many k_Book_many, ⟨a_Book_many, i_Book_many, k_Book_many⟩, ((fun_mk (st := s_Book_many) l_Book_many c_Book_many k_Book_many).binds (ps := ["self"]) fun _ _ _ _ _ _ us hl => match us, hl with | [_], _ => rfl)⟩, F_fraction := ⟨_, _, fun_mk (st := s_fraction) l_fraction c_fraction k_fraction, PySem.W.mg_of X G a_fraction, ((fun_mk (st := s_fraction) l_fraction c_fraction k_fraction).binds (ps := ["top", "bottom"]) fun _ _ _ _ _ _ us hl => match us, hl with | [_, _], _ => rfl)⟩, F_is_bound := ⟨_, _, fun_mk (st := s_is_bound) l_is_bound c_is_bound k_is_bound, PySem.W.mg_of X G a_is_bound, ((fun_mk (st := s_is_bound) l_is_bound c_is_bound k_is_bound).binds (ps := ["q"]) fun _ _ _ _ _ _ us hl => match us, hl with | [_], _ => rfl)⟩, F_whole_game := ⟨_, _, fun_mk (st := s_whole_game) l_whole_game c_whole_game k_whole_game, PySem.W.mg_of X G a_whole_game, ((fun_mk (st := s_whole_game) l_whole_game c_whole_game k_whole_game).binds (ps := ["book", "n"]) fun _ _ _ _ _ _ us hl => match us, hl with | [_, _], _ => rfl)⟩, F_put_number := ⟨_, _, fun_mk (st := s_put_number) l_put_number c_put_number k_put_number, PySem.W.mg_of X G a_put_number, ((fun_mk (st := s_put_number) l_put_number c_put_number k_put_number).binds (ps := ["book", "q"]) fun _ _ _ _ _ _ us hl => match us, hl with | [_, _], _ => rfl)⟩, F_number_game := ⟨_, _, fun_mk (st := s_number_game) l_number_game c_number_game k_number_game, PySem.W.mg_of X G a_number_game, ((fun_mk (st := s_number_game) l_number_game c_number_game k_number_game).binds (ps := ["book", "q"]) fun _ _ _ _ _ _ us hl => match us, hl with | [_, _], _ => rfl)⟩, F_law_whole := ⟨_, _, fun_mk (st := s_law_whole) l_law_whole c_law_whole k_law_whole, PySem.W.mg_of X G a_law_whole, ((fun_mk (st := s_law_whole) l_law_whole c_law_whole k_law_whole).binds (ps := ["found"]) fun _ _ _ _ _ _ us hl => match us, hl with | [_], _ => rfl)⟩, F_law_halved := ⟨_, _, fun_mk (st := s_law_halved) l_law_halved c_law_halved k_law_halved, PySem.W.mg_of X G a_law_halved, ((fun_mk (st := s_law_halved) l_law_halved c_law_halved k_law_halved).binds (ps := ["top", "bottom"]) fun _ _ _ _ _ _ us hl => match us, hl with | [_, _], _ => rfl)⟩, F_law_bound := ⟨_, _, fun_mk (st := s_law_bound) l_law_bound c_law_bound k_law_bound, PySem.W.mg_of X G a_law_bound, ((fun_mk (st := s_law_bound) l_law_bound c_law_bound k_law_bound).binds (ps := ["store", "most", "deepest"]) fun _ _ _ _ _ _ us hl => match us, hl with | [_, _, _], _ => rfl)⟩, F_law_due := ⟨_, _, fun_mk (st := s_law_due) l_law_due c_law_due k_law_due, PySem.W.mg_of X G a_law_due, ((fun_mk (st := s_law_due) l_law_due c_law_due k_law_due).binds (ps := ["q"]) fun _ _ _ _ _ _ us hl => match us, hl with | [_], _ => rfl)⟩, F_law_walked := ⟨_, _, fun_mk (st := s_law_walked) l_law_walked c_law_walked k_law_walked, PySem.W.mg_of X G a_law_walked, ((fun_mk (st := s_law_walked) l_law_walked c_law_walked k_law_walked).binds (ps := ["book", "q", "g", "known"]) fun _ _ _ _ _ _ us hl => match us, hl with | [_, _, _, _], _ => rfl)⟩, F_law_by_hand := ⟨_, _, fun_mk (st := s_law_by_hand) l_law_by_hand c_law_by_hand k_law_by_hand, PySem.W.mg_of X G a_law_by_hand, ((fun_mk (st := s_law_by_hand) l_law_by_hand c_law_by_hand k_law_by_hand).binds (ps := ["book", "q", "known"]) fun _ _ _ _ _ _ us hl => match us, hl with | [_, _, _], _ => rfl)⟩, F_law_of_the_book := ⟨_, _, fun_mk (st := s_law_of_the_book) l_law_of_the_book c_law_of_the_book k_law_of_the_book, PySem.W.mg_of X G a_law_of_the_book, ((fun_mk (st := s_law_of_the_book) l_law_of_the_book c_law_of_the_book k_law_of_the_book).binds (ps := ["book", "known"]) fun _ _ _ _ _ _ us hl => match us, hl with | [_, _], _ => rfl)⟩, F_law_bad := ⟨_, _, fun_mk (st := s_law_bad) l_law_bad c_law_bad k_law_bad, PySem.W.mg_of X G a_law_bad, ((fun_mk (st := s_law_bad) l_law_bad c_law_bad k_law_bad).binds (ps := ["store"]) fun _ _ _ _ _ _ us hl => match us, hl with | [_], _ => rfl)⟩, F_law_refused := ⟨_, _, fun_mk (st := s_law_refused) l_law_refused c_law_refused k_law_refused, PySem.W.mg_of X G a_law_refused, ((fun_mk (st := s_law_refused) l_law_refused c_law_refused k_law_refused).binds (ps := ["book", "q"]) fun _ _ _ _ _ _ us hl => match us, hl with | [_, _], _ => rfl)⟩, F_Book_lefts := ⟨_, _, fun_mk (st := s_Book_lefts) l_Book_lefts c_Book_lefts k_Book_lefts, ⟨a_Book_lefts, i_Book_lefts, k_Book_lefts⟩, ((fun_mk (st := s_Book_lefts) l_Book_lefts c_Book_lefts k_Book_lefts).binds (ps := ["self", "g"]) fun _ _ _ _ _ _ us hl => match us, hl with | [_, _], _ => rfl)⟩, F_Book_rights := ⟨_, _, fun_mk (st := s_Book_rights) l_Book_rights c_Book_rights k_Book_rights, ⟨a_Book_rights, i_Book_rights, k_Book_rights⟩, ((fun_mk (st := s_Book_rights) l_Book_rights c_Book_rights k_Book_rights).binds (ps := ["self", "g"]) fun _ _ _ _ _ _ us hl => match us, hl with | [_, _], _ => rfl)⟩, F_Book_depth := ⟨_, _, fun_mk (st := s_Book_depth) l_Book_depth c_Book_depth k_Book_depth, ⟨a_Book_depth, i_Book_depth, k_Book_depth⟩, ((fun_mk (st := s_Book_depth) l_Book_depth c_Book_depth k_Book_depth).binds (ps := ["self", "g"]) fun _ _ _ _ _ _ us hl => match us, hl with | [_, _], _ => rfl)⟩ }
  exact ⟨_, fun s v => .of_eq rfl, fun base _ _ => ok_law T (fun_mk (st := s_law) l_law c_law k_law)⟩
theorem walk {l : PySem.W.OpenLaw} {q : Program} {loose : List Str} {XP : (Str → Option Value) → Heap → Prop} {YP : World → Heap → Prop} {d : DefRec} {K : Params → PySem.W.Frag} (hn : l.most = some 63) (hdf : d.params.defaults = [])
    (hY : ∀ (w : World) (h : Heap), YP w h → (K w.params).In h)
    (F : ∀ (w : World) (mg : Str → Option Value) (fa : Addr) (h : Heap), (K w.params).In h → h.Ns mainGlobals mg → mg d.name = some (.ref fa) →
      ∃ fd : FuncData, (∀ (s : Shared) (u : Value), BindsTo s fd ⟨[u], []⟩ [("script", u)]) ∧ ∀ base : Heap, (K w.params).In base → base.Ns mainGlobals mg → FnOk l.prog w (K w.params) mg base CX0 31 fa fd ["script"] (sp_law_law (K w.params))) :
    PySem.W.WalkO q loose XP YP l.row.toRowW d [] (fun f vs => PySem.call f vs) :=
  L2.walk_of (n := 63) (k := 31) (x := "script") (CX := fun _ => CX0) (sp := fun w => sp_law_law (K w.params)) hn (by decide) hdf ⟨rfl, by decide, by decide⟩ hY F (fun _ H a ns hl _ hS => ⟨rfl, a, ns, rfl, hS, hl, fun _ => rfl⟩) fun _ _ _ _ _ z => z
end Hm

open PySem PySem.W PyProof.Rows in
set_option maxRecDepth 100000 in
set_option maxHeartbeats 0 in
theorem PySem.Challenge.cw_hotmoves_k27_number_games_holds : PySem.Challenge.rw_hotmoves_k27_number_games.Holds := by
  w_on; o_law; k_head; (case hw => w_witness2)
  k_fill
  refine Hm.walk (l := PySem.Challenge.rw_hotmoves_k27_number_games) rfl rfl (fun w h Y => PySem.W.kIn_of Y) ?F
  case F =>
    intro w mg fa h KX G hmg
    refine' Hm.all_mk KX G hmg ?a_GameError ?a_NoGame ?a_NoNumber ?a_NoText ?a_NoName ?a_Book ?pg_Book ?hd_Book ?po_Book ?sa_Book ?mk_Book ?kc_Book ?na_Book_depths ?na_Book_moves ?na_Book_numbers ?xk_GameError ?xx_GameError ?xb_GameError ?xt_GameError ?xd_GameError ?xs_GameError ?xk_NoGame ?xx_NoGame ?xb_NoGame ?xt_NoGame ?xd_NoGame ?xs_NoGame ?xk_NoName ?xx_NoName ?xb_NoName ?xt_NoName ?xd_NoName ?xs_NoName ?xk_NoNumber ?xx_NoNumber ?xb_NoNumber ?xt_NoNumber ?xd_NoNumber ?xs_NoNumber ?xk_NoText ?xx_NoText ?xb_NoText ?xt_NoText ?xd_NoText ?xs_NoText ?x_get ?x_tak ?ya_GameError ?yg_GameError ?yc_GameError ?ym_GameError ?yv_GameError ?yi_GameError_GameError ?yi_GameError_NoGame ?yi_GameError_NoName ?yi_GameError_NoNumber ?yi_GameError_NoText ?ya_NoGame ?yg_NoGame ?yc_NoGame ?ym_NoGame ?yv_NoGame ?yi_NoGame_GameError ?yi_NoGame_NoGame ?yi_NoGame_NoName ?yi_NoGame_NoNumber ?yi_NoGame_NoText ?ya_NoName ?yg_NoName ?yc_NoName ?ym_NoName ?yv_NoName ?yi_NoName_GameError ?yi_NoName_NoGame ?yi_NoName_NoName ?yi_NoName_NoNumber ?yi_NoName_NoText ?ya_NoNumber ?yg_NoNumber ?yc_NoNumber ?ym_NoNumber ?ys_NoNumber ?yv_NoNumber ?yi_NoNumber_GameError ?yi_NoNumber_NoGame ?yi_NoNumber_NoName ?yi_NoNumber_NoNumber ?yi_NoNumber_NoText ?ya_NoText ?yg_NoText ?yc_NoText ?ym_NoText ?yv_NoText ?yi_NoText_GameError ?yi_NoText_NoGame ?yi_NoText_NoName ?yi_NoText_NoNumber ?yi_NoText_NoText ?n_ValueError ?n_abs ?n_bool ?n_int ?n_isinstance ?n_len ?n_list ?n_max ?n_min ?n_range ?n_set ?n_sorted ?n_tuple ?n_zip ?v_GREATEST ?v_GREATEST_BOTTOM ?a_law_cell ?l_law_cell ?c_law_cell ?k_law_cell ?a_law_store ?l_law_store ?c_law_store ?k_law_store ?a_law_take ?l_law_take ?c_law_take ?k_law_take ?a_Book_need ?i_Book_need ?l_Book_need ?c_Book_need ?k_Book_need ?a_Book_game ?i_Book_game ?l_Book_game ?c_Book_game ?k_Book_game ?a_Book_init ?i_Book_init ?l_Book_init ?c_Book_init ?k_Book_init ?a_Book_many ?i_Book_many ?l_Book_many ?c_Book_many ?k_Book_many ?a_fraction ?l_fraction ?c_fraction ?k_fraction ?a_is_bound ?l_is_bound ?c_is_bound ?k_is_bound ?a_whole_game ?l_whole_game ?c_whole_game ?k_whole_game ?a_put_number ?l_put_number ?c_put_number ?k_put_number ?a_number_game ?l_number_game ?c_number_game ?k_number_game ?a_law_whole ?l_law_whole ?c_law_whole ?k_law_whole ?a_law_halved ?l_law_halved ?c_law_halved ?k_law_halved ?a_law_bound ?l_law_bound ?c_law_bound ?k_law_bound ?a_law_due ?l_law_due ?c_law_due ?k_law_due ?a_law_walked ?l_law_walked ?c_law_walked ?k_law_walked ?a_law_by_hand ?l_law_by_hand ?c_law_by_hand ?k_law_by_hand ?a_law_of_the_book ?l_law_of_the_book ?c_law_of_the_book ?k_law_of_the_book ?a_law_bad ?l_law_bad ?c_law_bad ?k_law_bad ?a_law_refused ?l_law_refused ?c_law_refused ?k_law_refused ?a_Book_lefts ?i_Book_lefts ?l_Book_lefts ?c_Book_lefts ?k_Book_lefts ?a_Book_rights ?i_Book_rights ?l_Book_rights ?c_Book_rights ?k_Book_rights ?a_Book_depth ?i_Book_depth ?l_Book_depth ?c_Book_depth ?k_Book_depth ?a_law ?l_law ?c_law ?k_law
    (case a_GameError => k_is)
    (case a_NoGame => k_is)
    (case a_NoNumber => k_is)
    (case a_NoText => k_is)
    (case a_NoName => k_is)
    (case a_Book => k_is)
    (case pg_Book => k_is)
    (case hd_Book => k_is)
    (case po_Book => k_is)
    (case sa_Book => k_is)
    (case mk_Book => k_is)
    (case kc_Book => k_is)
    (case na_Book_depths => k_is)
    (case na_Book_moves => k_is)
    (case na_Book_numbers => k_is)
    (case xk_GameError => k_is)
    (case xx_GameError => k_exc)
    (case xb_GameError => k_is)
    (case xt_GameError => k_is)
    (case xd_GameError => k_is)
    (case xs_GameError => first | rfl | k_is)
    (case xk_NoGame => k_is)
    (case xx_NoGame => k_exc)
    (case xb_NoGame => k_is)
    (case xt_NoGame => k_is)
    (case xd_NoGame => k_is)
    (case xs_NoGame => first | rfl | k_is)
    (case xk_NoName => k_is)
    (case xx_NoName => k_exc)
    (case xb_NoName => k_is)
    (case xt_NoName => k_is)
    (case xd_NoName => k_is)
    (case xs_NoName => first | rfl | k_is)
    (case xk_NoNumber => k_is)
    (case xx_NoNumber => k_exc)
    (case xb_NoNumber => k_is)
    (case xt_NoNumber => k_is)
    (case xd_NoNumber => k_is)
    (case xs_NoNumber => first | rfl | k_is)
    (case xk_NoText => k_is)
    (case xx_NoText => k_exc)
    (case xb_NoText => k_is)
    (case xt_NoText => k_is)
    (case xd_NoText => k_is)
    (case xs_NoText => first | rfl | k_is)
    (case x_get => k_is)
    (case x_tak => k_is)
    (case ya_GameError => k_is)
    (case yg_GameError => k_is)
    (case yc_GameError => k_is)
    (case ym_GameError => k_is)
    (case yv_GameError => first | kit_is | rfl)
    (case yi_GameError_GameError => first | kit_is | rfl)
    (case yi_GameError_NoGame => first | kit_is | rfl)
    (case yi_GameError_NoName => first | kit_is | rfl)
    (case yi_GameError_NoNumber => first | kit_is | rfl)
    (case yi_GameError_NoText => first | kit_is | rfl)
    (case ya_NoGame => k_is)
    (case yg_NoGame => k_is)
    (case yc_NoGame => k_is)
    (case ym_NoGame => k_is)
    (case yv_NoGame => first | kit_is | rfl)
    (case yi_NoGame_GameError => first | kit_is | rfl)
    (case yi_NoGame_NoGame => first | kit_is | rfl)
    (case yi_NoGame_NoName => first | kit_is | rfl)
    (case yi_NoGame_NoNumber => first | kit_is | rfl)
    (case yi_NoGame_NoText => first | kit_is | rfl)
    (case ya_NoName => k_is)
    (case yg_NoName => k_is)
    (case yc_NoName => k_is)
    (case ym_NoName => k_is)
    (case yv_NoName => first | kit_is | rfl)
    (case yi_NoName_GameError => first | kit_is | rfl)
    (case yi_NoName_NoGame => first | kit_is | rfl)
    (case yi_NoName_NoName => first | kit_is | rfl)
    (case yi_NoName_NoNumber => first | kit_is | rfl)
    (case yi_NoName_NoText => first | kit_is | rfl)
    (case ya_NoNumber => k_is)
    (case yg_NoNumber => k_is)
    (case yc_NoNumber => k_is)
    (case ym_NoNumber => k_is)
    (case ys_NoNumber => first | rfl | k_is)
    (case yv_NoNumber => first | kit_is | rfl)
    (case yi_NoNumber_GameError => first | kit_is | rfl)
    (case yi_NoNumber_NoGame => first | kit_is | rfl)
    (case yi_NoNumber_NoName => first | kit_is | rfl)
    (case yi_NoNumber_NoNumber => first | kit_is | rfl)
    (case yi_NoNumber_NoText => first | kit_is | rfl)
    (case ya_NoText => k_is)
    (case yg_NoText => k_is)
    (case yc_NoText => k_is)
    (case ym_NoText => k_is)
    (case yv_NoText => first | kit_is | rfl)
    (case yi_NoText_GameError => first | kit_is | rfl)
    (case yi_NoText_NoGame => first | kit_is | rfl)
    (case yi_NoText_NoName => first | kit_is | rfl)
    (case yi_NoText_NoNumber => first | kit_is | rfl)
    (case yi_NoText_NoText => first | kit_is | rfl)
    (case n_ValueError => k_is)
    (case n_abs => k_is)
    (case n_bool => k_is)
    (case n_int => k_is)
    (case n_isinstance => k_is)
    (case n_len => k_is)
    (case n_list => k_is)
    (case n_max => k_is)
    (case n_min => k_is)
    (case n_range => k_is)
    (case n_set => k_is)
    (case n_sorted => k_is)
    (case n_tuple => k_is)
    (case n_zip => k_is)
    (case v_GREATEST => k_is)
    (case v_GREATEST_BOTTOM => k_is)
    (case a_law_cell => k_is)
    (case l_law_cell => k_is)
    (case c_law_cell => k_is)
    (case k_law_cell => k_is)
    (case a_law_store => k_is)
    (case l_law_store => k_is)
    (case c_law_store => k_is)
    (case k_law_store => k_is)
    (case a_law_take => k_is)
    (case l_law_take => k_is)
    (case c_law_take => k_is)
    (case k_law_take => k_is)
    (case a_Book_need => k_is)
    (case i_Book_need => k_is)
    (case l_Book_need => k_is)
    (case c_Book_need => k_is)
    (case k_Book_need => k_is)
    (case a_Book_game => k_is)
    (case i_Book_game => k_is)
    (case l_Book_game => k_is)
    (case c_Book_game => k_is)
    (case k_Book_game => k_is)
    (case a_Book_init => k_is)
    (case i_Book_init => k_is)
    (case l_Book_init => k_is)
    (case c_Book_init => k_is)
    (case k_Book_init => k_is)
    (case a_Book_many => k_is)
    (case i_Book_many => k_is)
    (case l_Book_many => k_is)
    (case c_Book_many => k_is)
    (case k_Book_many => k_is)
    (case a_fraction => k_is)
    (case l_fraction => k_is)
    (case c_fraction => k_is)
    (case k_fraction => k_is)
    (case a_is_bound => k_is)
    (case l_is_bound => k_is)
    (case c_is_bound => k_is)
    (case k_is_bound => k_is)
    (case a_whole_game => k_is)
    (case l_whole_game => k_is)
    (case c_whole_game => k_is)
    (case k_whole_game => k_is)
    (case a_put_number => k_is)
    (case l_put_number => k_is)
    (case c_put_number => k_is)
    (case k_put_number => k_is)
    (case a_number_game => k_is)
    (case l_number_game => k_is)
    (case c_number_game => k_is)
    (case k_number_game => k_is)
    (case a_law_whole => k_is)
    (case l_law_whole => k_is)
    (case c_law_whole => k_is)
    (case k_law_whole => k_is)
    (case a_law_halved => k_is)
    (case l_law_halved => k_is)
    (case c_law_halved => k_is)
    (case k_law_halved => k_is)
    (case a_law_bound => k_is)
    (case l_law_bound => k_is)
    (case c_law_bound => k_is)
    (case k_law_bound => k_is)
    (case a_law_due => k_is)
    (case l_law_due => k_is)
    (case c_law_due => k_is)
    (case k_law_due => k_is)
    (case a_law_walked => k_is)
    (case l_law_walked => k_is)
    (case c_law_walked => k_is)
    (case k_law_walked => k_is)
    (case a_law_by_hand => k_is)
    (case l_law_by_hand => k_is)
    (case c_law_by_hand => k_is)
    (case k_law_by_hand => k_is)
    (case a_law_of_the_book => k_is)
    (case l_law_of_the_book => k_is)
    (case c_law_of_the_book => k_is)
    (case k_law_of_the_book => k_is)
    (case a_law_bad => k_is)
    (case l_law_bad => k_is)
    (case c_law_bad => k_is)
    (case k_law_bad => k_is)
    (case a_law_refused => k_is)
    (case l_law_refused => k_is)
    (case c_law_refused => k_is)
    (case k_law_refused => k_is)
    (case a_Book_lefts => k_is)
    (case i_Book_lefts => k_is)
    (case l_Book_lefts => k_is)
    (case c_Book_lefts => k_is)
    (case k_Book_lefts => k_is)
    (case a_Book_rights => k_is)
    (case i_Book_rights => k_is)
    (case l_Book_rights => k_is)
    (case c_Book_rights => k_is)
    (case k_Book_rights => k_is)
    (case a_Book_depth => k_is)
    (case i_Book_depth => k_is)
    (case l_Book_depth => k_is)
    (case c_Book_depth => k_is)
    (case k_Book_depth => k_is)
    (case a_law => k_is)
    (case l_law => k_is)
    (case c_law => k_is)
    (case k_law => k_is)

