import PyProof.Rows.All
import Wide.All
import OpenK.AllK
import Wide.FinOn
import HandS.ForMost
import HandS.ForExc
import HandS.Strs
import HandS.SetFor
import HandS.SortInts
import HandS.Deep
import HandS.Style
import HandS.Conv
import HandS.NoneIn
import HandS.IsInst
import HandS.Wide
import HandS.Codes
import HandS.Walk
import HandS.Zip
import HandS.StrMore
import HandS.RevRange
import HandS.Rev
import HandS.TupAny
import HandS.TupLen
import HandS.Steps
import HandS.Remove
import HandS.CallSlots
import HandS.ExcIs
import HandS.ExcValue
import KE.KDictDisplayH
import KE.KeyNested
import HandS.RaiseMore
import PySem.Challenge.RW_hotmoves_k04_no_games_refused
set_option Elab.async false
set_option linter.all false
set_option maxRecDepth 100000
set_option maxHeartbeats 4000000
/-! F1: set(list of ints); sorted of a set of any size. -/
namespace Hm
open PySem PySem.Spec PyProof.Rows L2

/-- a set as it is made -/
abbrev emptySet (w : World) : Obj := { cls := .type "set", dict := none, data := .set #[] 0 (.fresh 0 0 (!w.params.followText "set-order")) }

section
variable {P : Program} {w : World} {A : Around} {E : Value → Shared → Prop} {s : Shared}

set_option maxHeartbeats 8000000 in
theorem set_of_list {l : Addr} {xs : Array Value} (ks : List Int) {Q : Value → Shared → Prop} (calm : A.handled = none) (isL : s.heap.IsList l xs) (are : IntsAre xs.toList ks) (few : ks.length + 1 < scanBound)
    (fin : ∀ (hp : Heap) (tk n : Nat), SetR w hp s.heap.objs.size (fun j => decide (j ∈ ks)) n → n ≤ ks.length → (∀ b o, s.heap.get? b = some o → hp.get? b = some o) → Q (.ref s.heap.objs.size) { s with heap := hp, toks := tk }) :
    wpAny (model P w) A (call (.type "set") [.ref l]) Q E s := by
  have sz : xs.size = ks.length := (Array.length_toList (xs := xs)).symm.trans (IntsAre.length are)
  have made := F.called_set.made
  have sub := F.called_set.sub
  obtain ⟨c, tl, mro⟩ := F.called_set.mro
  refine wpAny_call (codeAny_of_tree ?_)
  show wpAny _ _ (callAny (.type "set") _) _ _ _
  refine wpAny_pure ⟨Code.quiet_builtin _ (by decide +kernel), codeAny_builtin F.entry_type_call ?_⟩
  rw [Around.under_plain (weight_type_call_type "set" [.ref l] []) rfl]
  have f1 := F.called_set.notType
  have f2 := F.called_set.canCreate
  have f3 := F.typeCall_set_1 (.ref l)
  repeat (any_goals (first | assumption | wp_step))
  refine codeAny_mono (code_set_led1 (.ref l) (E := E) (Q₁ := fun v t => v = .ref s.heap.objs.size ∧ t = { s with heap := s.heap.push (emptySet w) }) ⟨rfl, rfl⟩) fun r t hr => ?_
  cases r with
  | error e => exact hr
  | ok fl =>
    cases fl with
    | next => exact hr.elim
    | brk => exact hr.elim
    | cont => exact hr.elim
    | ret v =>
      obtain ⟨rfl, rfl⟩ := hr
      have at0 : (s.heap.push (emptySet w)).get? s.heap.objs.size = some (emptySet w) := Heap.get?_push_size _ rfl
      have ty0 : Shared.TypeIs { s with heap := s.heap.push (emptySet w) } (.ref s.heap.objs.size) "set" := ⟨_, at0, rfl⟩
      have i1 := F.called_set.init.lookup
      have i2 := F.called_set.init.bind (.ref s.heap.objs.size)
      repeat (any_goals (first | assumption | wp_step))
      refine codeAny_mono (codeAny_call_builtin (R := wants (fun r t => r = .none ∧ ∃ hp tk n, t = { s with heap := hp, toks := tk } ∧ SetR w hp s.heap.objs.size (fun j => decide (j ∈ ks)) n ∧ n ≤ ks.length ∧ (∀ b o, s.heap.get? b = some o → hp.get? b = some o)) E)
        F.called_set.init.plain F.entry_set_init (check_set_init_1 ty0 ?_)) fun r t hr => ?_
      · obtain ⟨⟨oc, od, odt, osl⟩, got, e1, n0, e2⟩ := isL
        simp only at e1 e2
        subst e1 e2
        have got1 : (s.heap.push (emptySet w)).get? l = some { cls := .type "list", dict := od, data := .seq xs n0, slots := osl } := Heap.get?_push_of_some _ got
        have isL1 : (s.heap.push (emptySet w)).IsList l xs := ⟨_, got1, rfl, n0, rfl⟩
        have t1 := F.sub_list_set
        have t2 := F.sub_list_frozenset
        have t3 : (Value.type "list" == Value.type "dict") = false := by decide
        unfold Builtin.«set.__init__» noKeywords Builtin.Frozenset.updateFrom
        generalize eI : pyIter = I
        wp_walk
        subst eI
        refine wpAny_pyIter_list isL1 (wpAny_bind (wpAny_runValue ?_))
        have lt : l < s.heap.objs.size := Heap.lt_size got
        have calm3 : A.in1.in1.in1.handled = none := by simp [calm]
        have sz1 : (s.heap.push (emptySet w)).objs.size = s.heap.objs.size + 1 := Heap.size_push ..
        have neI : l ≠ (s.heap.push (emptySet w)).objs.size := by rw [sz1]; exact Nat.ne_of_lt (Nat.lt_succ_of_lt lt)
        have notS : s.heap.objs.size ∉ [(s.heap.push (emptySet w)).objs.size, l] := by
          rw [sz1]; intro z; simp only [List.mem_cons, List.not_mem_nil, or_false] at z
          rcases z with z | z
          · exact Nat.ne_of_lt (Nat.lt_succ_self _) z
          · exact Nat.ne_of_gt lt z
        have each : ∀ (i : Nat) (v : Value), xs[i]? = some v → ∃ k t, ks[i]? = some k ∧ v = .int k t := fun i v hv => by
          have hi : i < ks.length := by rw [← sz]; exact (Array.getElem?_eq_some_iff.mp hv).1
          obtain ⟨t, e⟩ := PyProof.Rows.IntsAre.int_at are i v (by rw [Array.getElem?_toList]; exact hv)
          exact ⟨ks[i], t, List.getElem?_eq_getElem hi, by rw [e, List.getD_eq_getElem?_getD, List.getElem?_eq_getElem hi]; rfl⟩
        refine set_update_ints ((Walks.list calm3 _ l neI xs).toS) s.heap.objs.size notS ks sz few each (xs.size - 0) 0 _ (by omega) (Nat.zero_le _)
          ⟨⟨_, Heap.get?_push_size _ rfl, rfl, rfl⟩, (isL1.push _)⟩ ?start ?done
        case start =>
          have g : ((s.heap.push (emptySet w)).push { cls := .type "list_iterator", data := .fields #[.ref l, .int 0 0] }).get? s.heap.objs.size = some (emptySet w) := Heap.get?_push_of_some _ at0
          exact ⟨0, Nat.le_refl 0, setR_new_at g⟩
        case done =>
          rintro ⟨hp, gs, dr, tk, os⟩ n mv nle R
          cases (show gs = s.gens from mv.gens)
          cases (show dr = s.drawn from mv.drawn)
          cases (show os = s.os from mv.os)
          show wpAny _ _ _ _ _ _
          refine wpAny_pure ?_
          show wpAny _ _ (ret Value.none) _ _ _
          rw [sz] at nle
          refine wpAny_pure ⟨rfl, hp, tk, n, rfl, R, nle, fun b o e => ?_⟩
          have b0 : b < s.heap.objs.size := Heap.lt_size e
          refine mv.heap b o (fun z => ?_) (Heap.get?_push_of_some _ (Heap.get?_push_of_some _ e))
          simp only [List.mem_cons, List.not_mem_nil, or_false] at z
          rw [sz1] at z
          rcases z with z | z
          · exact Nat.ne_of_lt b0 z
          · exact Nat.ne_of_lt (Nat.lt_succ_of_lt b0) z
      · cases r with
        | error e => exact hr
        | ok fl =>
          cases fl with
          | next => exact hr.elim
          | brk => exact hr.elim
          | cont => exact hr.elim
          | ret v =>
            obtain ⟨rfl, hp, tk, n, rfl, R, nle, keep⟩ := hr
            repeat (any_goals (first | assumption | wp_step))
            exact fin _ _ _ R nle keep

/-- sorted(s) of a set of ints of any size -/
theorem sorted_of_set {a : Addr} {S : Int → Bool} {n : Nat} {Q : Value → Shared → Prop} (R : SetR w s.heap a S n) (calm : A.handled = none)
    (fin : ∀ t p (out : Array Value) (c : Nat) (ns : List Int), (∀ b o, s.heap.get? b = some o → t.heap.get? b = some o) → t.gens = s.gens → t.os = s.os → s.heap.objs.size ≤ p →
      t.heap.get? p = some (seqObj "list" out c) → IntsAre out.toList ns → ns.Pairwise (· < ·) → (∀ k, k ∈ ns ↔ S k = true) → ns.length = n → Q (.ref p) t) :
    wpAny (model P w) A (call (.builtin "sorted") [.ref a]) Q E s := by
  obtain ⟨o, es, ep, t, ho, hex, hd, good, nd, mem, few, fits, num, ris, led⟩ := R
  refine Calls.call_function_entry kind_sorted plain_sorted entry_sorted (args_sorted1 _) ?_
  unfold Builtin.«sorted»
  refine wpAny_bind (m := checkCount "sorted" 1 1 _) (wpAny_pure ?_)
  refine wpAny_bind (collect_set (A := A.in1) calm ⟨o, ho, hex.1, hd⟩ fits few ris led fun s1 vs k1 big g1 o1 pm => ?_)
  have len : vs.length = n := by rw [pm.length_eq, List.length_map, Array.length_toList]; exact num
  have areI : IntsAre vs (vs.map Builtin.Re.reRawOf) := ints_of vs fun v hv => by
    obtain ⟨e, he, q⟩ := List.mem_map.mp (pm.mem_iff.mp hv)
    obtain ⟨k, tk, h1, _⟩ := good e he
    exact ⟨k, tk, q ▸ h1⟩
  have pk : (vs.map Builtin.Re.reRawOf).Perm (es.toList.map keyOf) := by
    have q := pm.map Builtin.Re.reRawOf
    rw [List.map_map] at q
    exact q
  have line : vs.length ≤ sizeLine := by
    rw [len, sizeLine_eq]; have : scanBound = 4096 := rfl; omega
  refine wpAny_bind (wpAny_newList ?_ line)
  have at1 : (s1.heap.push (seqObj "list" vs.toArray 0)).get? s1.heap.objs.size = some (seqObj "list" vs.toArray 0) := Heap.get?_push_size _ rfl
  refine wpAny_bind (wpAny_holding (wpAny_call_entry slot_list_sort ⟨_, at1, rfl⟩ entry_list_sort
    (SrtO.list_sort_ord SrtO.swo_int at1 line (fun h2 => SrtO.ints_sortable areI h2) fun out h1 h2 => ⟨_, rfl, ?_⟩) (args_list_sort _)))
  obtain ⟨j1, j2, j3⟩ := SrtO.ints_out areI h1 h2
  obtain ⟨c, hc⟩ := sortedHeap_at (vs := vs) (out := out.toArray) at1
  have pn : (out.map SrtO.iv).Perm (es.toList.map keyOf) := j2.trans pk
  refine wpAny_pure ⟨_, rfl, fin _ s1.heap.objs.size out.toArray c (out.map SrtO.iv) (fun b u e => ?_) g1 o1 big hc (by simpa using j1) (lt_of_le_nodup _ j3 (pn.nodup_iff.mpr nd)) (fun k => by rw [pn.mem_iff, ← mem k]) ?_⟩
  · have q := k1 b u e
    have lt := Heap.lt_size q
    show (sortedHeap (s1.heap.push (seqObj "list" vs.toArray 0)) s1.heap.objs.size vs out.toArray).get? b = some u
    rw [sortedHeap_old (Nat.ne_of_lt lt) (by rw [size_push']; exact Nat.lt_succ_of_lt lt)]
    exact Heap.get?_push_of_some _ q
  · rw [pn.length_eq, List.length_map, Array.length_toList]; exact num
end

section
variable {X : Cx}
/-- set(xs), xs a list of ints -/
def uSetI (K : PySem.W.Frag) (w : World) : List V → Hp → VK → Prop := fun xs H Q => ∃ (l : Addr) (ns : List Int), xs = [.ref l] ∧ SqL K H l (ns.map V.int) ∧ ns.length ≤ 4000 ∧
  ∀ (a : Addr) (n : Nat), H a = none → n ≤ ns.length → Q (.ref a) (upd H a (SetO w a (fun j => decide (j ∈ ns)) n))
theorem cu_setI (hc : X.calm = true) : CallR X (.type "set") (uSetI X.K X.w) := by
  intro pins s σ H xs us Q I r h
  obtain ⟨l, ns, rfl, hl, few, q⟩ := h
  rw [Vals.ref1 r]
  obtain ⟨its, rv, pl, hz⟩ := I.list hl
  have hs : scanBound = 4096 := rfl
  refine set_of_list ns (I.ok.hd hc) pl.isList (by simpa using rv.ints) (by omega) fun hp tk n R nle keep => ?_
  exact ⟨.ref _, upd H s.heap.objs.size (SetO X.w s.heap.objs.size (fun j => decide (j ∈ ns)) n), I.laid (t' := tk) keep (Nat.le_refl _) (setO_new R), rfl, q _ n (I.hok.fresh (Nat.le_refl _)) nle⟩
/-- sorted(s), s a set of ints -/
def uSortSet (w : World) : List V → Hp → VK → Prop := fun vs H Q => ∃ (a : Addr) (S : Int → Bool) (n : Nat), vs = [V.ref a] ∧ H a = some (SetO w a S n) ∧
  ∀ (ns : List Int) (p : Addr), ns.Pairwise (· < ·) → (∀ k : Int, k ∈ ns ↔ S k = true) → ns.length = n → H p = none → Q (.ref p) (upd H p (.lst (ns.map V.int)))
theorem cu_sortSet (hc : X.calm = true) : CallR X (.builtin "sorted") (uSortSet X.w) := by
  intro pins s σ H vs us Q I r h
  obtain ⟨a, S, n, rfl, ha, q⟩ := h
  have R := setO_get I ha
  have nb : n ≤ 4096 := by
    obtain ⟨_, es, _, _, _, _, _, _, _, _, few, _, num, _⟩ := R
    have hs : scanBound = 4096 := rfl
    omega
  rw [Vals.ref1 r]
  refine sorted_of_set R (I.ok.hd hc) fun s' p out c ns k g o big got areI up mem len => ?_
  have line : (ns.map V.int).length ≤ sizeLine := by rw [List.length_map, len, sizeLine_eq]; omega
  have new : H p = none := I.hok.fresh big
  have J : Inv X pins σ (upd H p (.lst (ns.map V.int))) { s with heap := s'.heap, gens := s'.gens, drawn := s'.drawn, toks := s'.toks } :=
    I.call (ch := []) (Un.laid k big new) (I.hok.laid k big ⟨line, out.toList, c, vals_of_ints areI, got⟩) (by rw [g]; exact I.bare) (fun _ z => nomatch z)
  have same : s' = { s with heap := s'.heap, gens := s'.gens, drawn := s'.drawn, toks := s'.toks } := by
    cases s'; cases s; cases o; rfl
  rw [same]
  exact ⟨.ref p, _, J, rfl, q ns p up mem len new⟩
end
end Hm

/-! F1b: dicts whose keys are nested tuples of ints and texts. -/
namespace Hm
open PySem PySem.Spec PyProof.Rows L2

mutual
/-- the value v is the key k, its tuples tracked -/
def NkV (H : Hp) : NestedKey → V → Prop
  | .none, v => v = .non
  | .num i, v => v = .int i
  | .text x, v => v = .str x
  | .tup ks, v => ∃ a vs, v = .ref a ∧ H a = some (.tup vs) ∧ NkVs H ks vs
def NkVs (H : Hp) : List NestedKey → List V → Prop
  | [], vs => vs = []
  | k :: ks, vs => ∃ v r, vs = v :: r ∧ NkV H k v ∧ NkVs H ks r
end
mutual
theorem NkV.keeps {H H' : Hp} (ht : ∀ b xs, H b = some (.tup xs) → H' b = some (.tup xs)) : ∀ (k : NestedKey) (v : V), NkV H k v → NkV H' k v
  | .none, _, h => by simpa only [NkV] using h
  | .num i, _, h => by simpa only [NkV] using h
  | .text x, _, h => by simpa only [NkV] using h
  | .tup ks, _, h => by
    simp only [NkV] at h ⊢
    obtain ⟨a, vs, e, ha, hs⟩ := h
    exact ⟨a, vs, e, ht _ _ ha, NkVs.keeps ht ks vs hs⟩
theorem NkVs.keeps {H H' : Hp} (ht : ∀ b xs, H b = some (.tup xs) → H' b = some (.tup xs)) : ∀ (ks : List NestedKey) (vs : List V), NkVs H ks vs → NkVs H' ks vs
  | [], _, h => by simpa only [NkVs] using h
  | k :: ks, _, h => by
    simp only [NkVs] at h ⊢
    obtain ⟨v, r, e, h1, h2⟩ := h
    exact ⟨v, r, e, NkV.keeps ht k v h1, NkVs.keeps ht ks r h2⟩
end
section
variable {P : Program} {w : World} {H : Hp} {h : Heap}
mutual
theorem nk_is (ok : HOk P w H h) : ∀ (k : NestedKey) (v : V) (u : Value), NkV H k v → RelV v u → NestedIs h k u
  | .none, _, _, e, r => by simp only [NkV] at e; subst e; cases r; exact .none
  | .num i, _, _, e, r => by simp only [NkV] at e; subst e; obtain ⟨t, rfl⟩ := r; exact .int i t
  | .text x, _, _, e, r => by simp only [NkV] at e; subst e; obtain ⟨t, rfl⟩ := r; exact .text x t
  | .tup ks, _, _, e, r => by
    simp only [NkV] at e
    obtain ⟨a, vs, rfl, ha, hs⟩ := e
    cases r
    obtain ⟨_, its, rv, o, h1, h2, n, h3⟩ := (show ObjOk P w H h a (.tup vs) from ok a _ ha)
    exact .tup h1 h2 h3 (by simpa using nks_are ok ks vs its hs rv)
theorem nks_are (ok : HOk P w H h) : ∀ (ks : List NestedKey) (vs : List V) (us : List Value), NkVs H ks vs → Vals vs us → NestedAll h ks us
  | [], _, _, e, r => by simp only [NkVs] at e; subst e; cases r; exact .nil
  | k :: ks, _, _, e, r => by
    simp only [NkVs] at e
    obtain ⟨v, rr, rfl, h1, h2⟩ := e
    cases r with
    | cons r1 r2 => exact .cons (nk_is ok k v _ h1 r1) (nks_are ok ks rr _ h2 r2)
end
end

/-- an entry: the key, its tuple's address, the value -/
abbrev NX := NestedKey × Addr × V
def NRel (p : NX) (q : NestedKey × Addr × Value) : Prop := p.1 = q.1 ∧ p.2.1 = q.2.1 ∧ RelV p.2.2 q.2.2
/-- the dict at a -/
def NdO (P : Program) (w : World) (a : Addr) (xs : List NX) : HO := .ext fun h => (a == sysModules) = false ∧ xs.length ≤ sizeLine ∧ ∃ ys, Paired NRel xs ys ∧
  ∃ o es ep, h.get? a = some o ∧ o.ExactDict ∧ o.data = .dict es ep ∧ es.toList = ys.map (entryOfKey (nestedKind P w)) ∧ (ys.map (·.1)).Nodup
structure NdAt (P : Program) (w : World) (H : Hp) (a : Addr) (xs : List NX) : Prop where
  here : H a = some (NdO P w a xs)
  keys : ∀ x ∈ xs, NkV H x.1 (.ref x.2.1) ∧ x.1.depth ≤ 8
def nval (xs : List NX) (k : NestedKey) : Option V := (xs.find? fun x => decide (x.1 = k)).map (·.2.2)
def nput (xs : List NX) (k : NestedKey) (a : Addr) (v : V) : List NX := if (nval xs k).isSome then xs.map fun x => if x.1 = k then (x.1, x.2.1, v) else x else xs ++ [(k, a, v)]

section
variable {P : Program} {w : World} {H H' : Hp} {h h' : Heap} {a : Addr} {xs : List NX}
theorem ndO_ok {ys : List (NestedKey × Addr × Value)} (z : (a == sysModules) = false) (l : xs.length ≤ sizeLine) (r : Paired NRel xs ys) (d : h.DictOfH (nestedKind P w) a ys) : ObjOk P w H h a (NdO P w a xs) := by
  obtain ⟨o, es, ep, e1, e2, e3, e4, e5, e6⟩ := d
  refine ⟨⟨z, l, ys, r, o, es, ep, e1, e2, e3, e4, e6⟩, ⟨o, e1⟩, fun h1 h2 q k => ?_⟩
  obtain ⟨z, l, ys, r, o, es, ep, f1, f⟩ := q
  exact ⟨z, l, ys, r, o, es, ep, k o f1, f⟩
theorem NdAt.get (ok : HOk P w H h) (N : NdAt P w H a xs) : (a == sysModules) = false ∧ xs.length ≤ sizeLine ∧ ∃ ys, Paired NRel xs ys ∧ h.DictOfH (nestedKind P w) a ys := by
  obtain ⟨⟨z, l, ys, r, o, es, ep, e1, e2, e3, e4, e6⟩, _, _⟩ := ok a _ N.here
  refine ⟨z, l, ys, r, o, es, ep, e1, e2, e3, e4, ?_, e6⟩
  have all : ∀ {l : List NX} {m : List (NestedKey × Addr × Value)}, Paired NRel l m → (∀ x ∈ l, NkV H x.1 (.ref x.2.1) ∧ x.1.depth ≤ 8) → ∀ y ∈ m, (nestedKind P w).is h y.1 y.2.1 := by
    intro l m q
    induction q with
    | nil => intro _ y hy; exact nomatch hy
    | @cons p q ps qs hq t ih =>
      intro hk y hy
      rcases List.mem_cons.mp hy with e | hy
      · subst e
        obtain ⟨k1, k2⟩ := hk p List.mem_cons_self
        rw [← hq.1, ← hq.2.1]
        exact ⟨nk_is ok p.1 _ _ k1 rfl, k2⟩
      · exact ih (fun x hx => hk x (List.mem_cons_of_mem _ hx)) y hy
  exact all r N.keys
theorem NRel.val {ys : List (NestedKey × Addr × Value)} (r : Paired NRel xs ys) (k : NestedKey) : RelO (nval xs k) ((atKey ys k).map (·.2)) := by
  induction r with
  | nil => exact True.intro
  | @cons p q ps qs hq t ih =>
    obtain ⟨h1, _, h3⟩ := hq
    by_cases e : p.1 = k
    · have e' : q.1 = k := h1.symm.trans e
      have b : atKey (q :: qs) k = some q.2 := by simp [atKey, List.find?_cons, e']
      have c : nval (p :: ps) k = some p.2.2 := by simp [nval, List.find?_cons, e]
      rw [c, b]; exact h3
    · have e' : ¬ q.1 = k := fun z => e (h1.trans z)
      have b : atKey (q :: qs) k = atKey qs k := by simp [atKey, List.find?_cons, e']
      have c : nval (p :: ps) k = nval ps k := by simp [nval, List.find?_cons, e]
      rw [c, b]; exact ih
theorem NRel.put {ys : List (NestedKey × Addr × Value)} (r : Paired NRel xs ys) (k : NestedKey) (b : Addr) {v : V} {u : Value} (rv : RelV v u) : Paired NRel (nput xs k b v) (storedH ys k b u) := by
  have e : (nval xs k).isSome = (atKey ys k).isSome := by rw [(NRel.val r k).isSome_eq, Option.isSome_map]
  unfold nput storedH
  rw [e]
  by_cases q : (atKey ys k).isSome = true
  · rw [if_pos q, if_pos q]
    clear e q
    induction r with
    | nil => exact .nil
    | @cons p q ps qs hq t ih =>
      rw [List.map_cons, List.map_cons]
      refine .cons ?_ ih
      obtain ⟨h1, h2, h3⟩ := hq
      unfold putAt
      by_cases e : p.1 = k
      · rw [if_pos e, if_pos (h1.symm.trans e)]; exact ⟨h1, h2, rv⟩
      · rw [if_neg e, if_neg (fun z => e (h1.trans z))]; exact ⟨h1, h2, h3⟩
  · rw [if_neg q, if_neg q]
    exact Paired.snoc r ⟨rfl, rfl, rv⟩
theorem nput_len (xs : List NX) (k : NestedKey) (b : Addr) (v : V) : (nput xs k b v).length ≤ xs.length + 1 := by
  unfold nput; split <;> simp
theorem nput_keys {k : NestedKey} {b : Addr} {v : V} (hk : ∀ x ∈ xs, NkV H x.1 (.ref x.2.1) ∧ x.1.depth ≤ 8) (hb : NkV H k (.ref b)) (d : k.depth ≤ 8) : ∀ x ∈ nput xs k b v, NkV H x.1 (.ref x.2.1) ∧ x.1.depth ≤ 8 := by
  intro x hx
  unfold nput at hx
  split at hx
  · obtain ⟨y, hy, e⟩ := List.mem_map.mp hx
    subst e
    split
    · exact hk y hy
    · exact hk y hy
  · rcases List.mem_append.mp hx with hx | hx
    · exact hk x hx
    · cases List.mem_singleton.mp hx; exact ⟨hb, d⟩
theorem NdAt.keep (N : NdAt P w H a xs) (ha : H' a = H a) (ht : ∀ b ys, H b = some (.tup ys) → H' b = some (.tup ys)) : NdAt P w H' a xs :=
  ⟨ha.trans N.here, fun x hx => ⟨NkV.keeps ht _ _ (N.keys x hx).1, (N.keys x hx).2⟩⟩
end

theorem nk_key {P : Program} {w : World} {H : Hp} {h : Heap} {k : NestedKey} {p : Addr} (ok : HOk P w H h) (kp : NkV H k (.ref p)) (d : k.depth ≤ 8) : (nestedKind P w).is h k p := ⟨nk_is ok k _ _ kp rfl, d⟩
section
variable {X : Cx}
/-- y in d -/
def uNIn (P : Program) (w : World) (neg : Bool) : R2 := fun y x H Q => ∃ a p k xs, x = .ref a ∧ y = .ref p ∧ NdAt P w H a xs ∧ NkV H k (.ref p) ∧ k.depth ≤ 8 ∧ Q (.bl (neg != (nval xs k).isSome)) H
theorem NdAt.isSome {P : Program} {w : World} {k : NestedKey} {xs : List NX} {ys : List (NestedKey × Addr × Value)} (r : Paired NRel xs ys) : (atKey ys k).isSome = (nval xs k).isSome := by
  rw [(NRel.val r k).isSome_eq, Option.isSome_map]
theorem ou_nin (hu : X.A.units + 64 < cLine) : OpR X (compareOp .In) (uNIn X.prog X.w false) := by
  intro pins s σ H y x v u Q I ry rx h
  obtain ⟨a, p, k, xs, rfl, rfl, N, kp, d, q⟩ := h
  cases rx; cases ry
  obtain ⟨z, l, ys, r, D⟩ := N.get I.hok
  refine wpAny_in_heap (show X.A.units + 1 + 8 < cLine by omega) (nk_key I.hok kp d) z D ?_
  rw [NdAt.isSome (P := X.prog) (w := X.w) r]
  exact ⟨.bl _, H, I.tok _, rfl, by simpa using q⟩
theorem ou_nnotin (hu : X.A.units + 64 < cLine) : OpR X (compareOp .NotIn) (uNIn X.prog X.w true) := by
  intro pins s σ H y x v u Q I ry rx h
  obtain ⟨a, p, k, xs, rfl, rfl, N, kp, d, q⟩ := h
  cases rx; cases ry
  obtain ⟨z, l, ys, r, D⟩ := N.get I.hok
  refine wpAny_notIn_heap (show X.A.units + 1 + 8 < cLine by omega) (nk_key I.hok kp d) z D ?_
  rw [NdAt.isSome (P := X.prog) (w := X.w) r]
  exact ⟨.bl _, H, I.tok _, rfl, by simpa using q⟩
/-- d[y] -/
def uNIx (P : Program) (w : World) : R2 := fun x y H Q => ∃ a p k xs v, x = .ref a ∧ y = .ref p ∧ NdAt P w H a xs ∧ NkV H k (.ref p) ∧ k.depth ≤ 8 ∧ nval xs k = some v ∧ Q v H
theorem ix_nd (hu : X.A.units + 64 < cLine) : IxR X (uNIx X.prog X.w) := by
  intro value slice pins s σ H x y v u Q I rx ry h hs
  obtain ⟨a, p, k, xs, z, rfl, rfl, N, kp, d, e, q⟩ := h
  cases rx; cases ry
  obtain ⟨_, l, ys, r, D⟩ := N.get I.hok
  obtain ⟨w', hw, rw'⟩ := RelO.some_of (v := z) (o := (atKey ys k).map (·.2)) (by rw [← e]; exact NRel.val r k)
  obtain ⟨q2, hq2, e2⟩ := Option.map_eq_some_iff.mp hw
  refine tail_any D.typeIs PySem.F.slot_dict_getitem.lookup (wpAny_getItem_heap (show X.A.units + 1 + 8 < cLine by omega) (nk_key I.hok kp d) D hq2 ?_) hs
  rw [e2]
  exact ⟨z, H, I.tok _, rw', q⟩
/-- a dict's item by int, text, or a flat tuple -/
def uDIx : R2 := fun x y H Q => ∃ a v, x = .ref a ∧ DGet H a y (some v) ∧ Q v H
theorem ix_d (hu : X.A.units + 64 < cLine) : IxR X uDIx := by
  intro value slice pins s σ H x y v u Q I rx ry h hs
  obtain ⟨a, z, rfl, g, q⟩ := h
  cases rx
  exact tail_any (dict_typeIs I g) PySem.F.slot_dict_getitem.lookup (d_getItem (by omega) I g ry fun w' s' I' rw' => ⟨z, H, I', rw', q⟩) hs
/-- y in d, keys ints, texts, flat tuples -/
def uDIn (neg : Bool) : R2 := fun y x H Q => ∃ a o, x = .ref a ∧ DGet H a y o ∧ Q (.bl (neg != o.isSome)) H
theorem ou_din (hu : X.A.units + 64 < cLine) : OpR X (compareOp .In) (uDIn false) := by
  intro pins s σ H y x v u Q I ry rx h
  obtain ⟨a, o, rfl, g, q⟩ := h
  cases rx
  exact d_in (by omega) I g ry fun s' I' => ⟨.bl _, H, I', rfl, by simpa using q⟩
theorem ou_dnotin (hu : X.A.units + 64 < cLine) : OpR X (compareOp .NotIn) (uDIn true) := by
  intro pins s σ H y x v u Q I ry rx h
  obtain ⟨a, o, rfl, g, q⟩ := h
  cases rx
  exact d_notIn (by omega) I g ry fun s' I' => ⟨.bl _, H, I', rfl, by simpa using q⟩
/-- d[y] = v -/
def uNSet (P : Program) (w : World) : V → V → V → Hp → (Hp → Prop) → Prop := fun o i v H Q => ∃ a p k xs, o = .ref a ∧ i = .ref p ∧ NdAt P w H a xs ∧ NkV H k (.ref p) ∧ k.depth ≤ 8 ∧ xs.length < sizeLine ∧ Q (upd H a (NdO P w a (nput xs k p v)))
theorem set_nd (hu : X.A.units + 64 < cLine) : PSet X (uNSet X.prog X.w) := by
  intro pins s σ H o i v ov iv u Q I ro ri rv h
  obtain ⟨a, p, k, xs, rfl, rfl, N, kp, d, few, q⟩ := h
  cases ro; cases ri
  obtain ⟨z, l, ys, r, D⟩ := N.get I.hok
  have hl : (nput xs k p v).length ≤ sizeLine := Nat.le_trans (nput_len xs k p v) few
  refine wpAny_setItem_heap (hsz := by rw [← Paired.length r]; exact l) (show X.A.units + 1 + 8 < cLine by omega) (nk_key I.hok kp d) D fun h' D' hs => ?_
  have he : ∃ q, h'.get? a = some q := let ⟨q, _, _, hq, _⟩ := D'; ⟨q, hq⟩
  exact ⟨_, d_write I (by rw [N.here]; exact True.intro) hs he (ndO_ok z hl (NRel.put r k p rv) D'), q⟩
def uDSet : V → V → V → Hp → (Hp → Prop) → Prop := fun o i v H Q => ∃ a H', o = .ref a ∧ DPut H a i v H' ∧ Q H'
theorem set_d (hu : X.A.units + 64 < cLine) : PSet X uDSet := by
  intro pins s σ H o i v ov iv u Q I ro ri rv h
  obtain ⟨a, H', rfl, g, q⟩ := h
  cases ro
  exact d_setItem (by omega) I g ri rv fun s' I' => ⟨H', I', q⟩
theorem PSet.or {X : Cx} {t t' : TSet} (h : PSet X t) (h' : PSet X t') : PSet X (fun o i v H Q => t o i v H Q ∨ t' o i v H Q) := by
  intro pins s σ H o i v ov iv u Q I ro ri rv q
  rcases q with q | q
  · exact h pins s σ H o i v ov iv u Q I ro ri rv q
  · exact h' pins s σ H o i v ov iv u Q I ro ri rv q
/-- {} with nested keys to come -/
theorem nd_empty {P : Program} {w : World} {H : Hp} (h : Heap) (hb : sysModules < h.objs.size) : ObjOk P w H (h.push { cls := .type "dict", data := .dict #[] }) h.objs.size (NdO P w h.objs.size []) :=
  ndO_ok (beq_eq_false_iff_ne.mpr (Ne.symm (Nat.ne_of_lt hb))) (Nat.zero_le _) .nil (Heap.DictOfH.new h)
def uDNew (P : Program) (w : World) : TE := fun _ H Q => (∃ kind : Bool, ∀ p, H p = none → Q (.ref p) (upd H p (if kind = true then .dK [] else NdO P w p []))) ∨ (∀ p, H p = none → Q (.ref p) (upd H p (.dT [])))
theorem pe_dnew {pos : Pos} : PE X (.Dict [] [] pos) (uDNew X.prog X.w) := ⟨fun pins s σ H Q I h => by
  rcases h with ⟨kind, q⟩ | q
  · cases kind with
    | true => exact wpAny_Dict_empty ⟨.ref s.heap.objs.size, _, I.laid (a := s.heap.objs.size) (o := .dK []) (t' := s.toks) (fun _ _ q => Heap.get?_push_of_some _ q) (Nat.le_refl _) (dk_empty s.heap I.big), rfl, q _ (I.hok.fresh (Nat.le_refl _))⟩
    | false => exact wpAny_Dict_empty ⟨.ref s.heap.objs.size, _, I.laid (a := s.heap.objs.size) (o := NdO X.prog X.w s.heap.objs.size []) (t' := s.toks) (fun _ _ q => Heap.get?_push_of_some _ q) (Nat.le_refl _) (nd_empty s.heap I.big), rfl, q _ (I.hok.fresh (Nat.le_refl _))⟩
  · exact pe_dnewT.run pins s σ H Q I q⟩
/-- {k: v} with one nested key -/
def uDisp1 (P : Program) (w : World) (tk tv : TE) : TE := fun σ H Q => ∀ p, H p = none → tk σ (upd H p (NdO P w p [])) fun x H1 => tv σ H1 fun y H2 =>
  ∃ k b, x = .ref b ∧ H2 p = some (NdO P w p []) ∧ NkV H2 k (.ref b) ∧ k.depth ≤ 8 ∧ Q (.ref p) (upd H2 p (NdO P w p [(k, b, y)]))
theorem pe_disp1 {ke ve : Expr} {tk tv : TE} {pos : Pos} (hu : X.A.units + 64 < cLine) (hk : PE X ke tk) (hv : PE X ve tv)
    (shape : (evalEachOpt [some ke] X.env).zip ((evalEach [ve] X.env).map fun v => do let x ← v; standAt pos; pure x) = [(eval ke X.env, (do let x ← eval ve X.env; standAt pos; pure x))].map fun p => (some p.1, p.2) := by rfl) :
    PE X (.Dict [some ke] [ve] pos) (uDisp1 X.prog X.w tk tv) := by
  refine ⟨fun pins s σ H Q I h => ?_⟩
  have hn := I.hok.fresh (Nat.le_refl s.heap.objs.size)
  have I1 := I.laid (a := s.heap.objs.size) (o := NdO X.prog X.w s.heap.objs.size []) (h' := s.heap.push { cls := .type "dict", data := .dict #[] }) (t' := s.toks) (fun _ _ q => Heap.get?_push_of_some _ q) (Nat.le_refl _) (nd_empty s.heap I.big)
  have h1 : PPs X pos [some ke] [ve] [(tk, tv)] := pps_cons hk hv pps_nil
  have trees : pairTrees [some ke] [ve] X.env pos = [(eval ke X.env, (do let x ← eval ve X.env; standAt pos; pure x))] := by rfl
  have run := h1.run pins _ σ _ (fun ps H2 => match ps with
    | [(x, y)] => ∃ k b, x = .ref b ∧ H2 s.heap.objs.size = some (NdO X.prog X.w s.heap.objs.size []) ∧ NkV H2 k (.ref b) ∧ k.depth ≤ 8 ∧ Q (.ref s.heap.objs.size) (upd H2 s.heap.objs.size (NdO X.prog X.w s.heap.objs.size [(k, b, y)]))
    | _ => False) I1 (h _ hn)
  rw [trees] at run
  rw [arm_eval_Dict, shape, dictDisplay_pairs _ (by simp) (by simp)]
  refine wpAny_bind (wpAny_standAt (wpAny_bind (wpAny_subDictH (knd := nestedKind X.prog X.w) (show X.A.units + 8 < cLine by omega) (by simp) (thn run fun vs s2 hh => ?_))))
  obtain ⟨ps, H2, I2, rel, q⟩ := hh
  split at q
  · rename_i x y
    obtain ⟨k, b, rfl, e, kb, d, q⟩ := q
    cases rel with
    | @cons p1 q1 ps qs rr t =>
    cases t
    obtain ⟨u1, u2⟩ := q1
    obtain ⟨r1, r2⟩ := rr
    cases (show u1 = Value.ref b from r1)
    obtain ⟨z, l, ys, rr, D⟩ := NdAt.get I2.hok (xs := []) ⟨e, fun _ hx => nomatch hx⟩
    cases rr
    refine ⟨[(k, b, u2)], ⟨rfl, rfl, nk_key I2.hok kb d, True.intro⟩, D, fun h' tk' D' hs => wpAny_pure ⟨.ref s.heap.objs.size, _, ?_, rfl, q⟩⟩
    have he : ∃ q, h'.get? s.heap.objs.size = some q := let ⟨q, _, _, hq, _⟩ := D'; ⟨q, hq⟩
    exact d_write I2 (by rw [e]; exact True.intro) hs he (ndO_ok (ys := [(k, b, u2)]) z (by rw [sizeLine_eq]; exact (by decide : (1 : Nat) ≤ 16777216)) (.cons ⟨rfl, rfl, r2⟩ .nil) D')
  · exact q.elim
end
/-! sorted(t), t a tuple of ints -/
section
open PyProof.Rows
variable {P : Program} {w : World} {A : Around} {E : Value → Shared → Prop} {s : Shared}
theorem collect_tup {l : Addr} {vs : List Value} {Q : List Value → Shared → Prop} (hl : s.heap.IsTuple l vs.toArray) (hsz : vs.length ≤ sizeLine)
    (h : Q vs { s with heap := (s.heap.push (seqObj "list" #[] 0)).update s.heap.objs.size (Obj.mapSeq (· ++ vs.toArray)) }) :
    wpAny (model P w) A (collect (.ref l)) Q E s := by
  obtain ⟨o, ho, hc, n, hd⟩ := id hl
  unfold collect
  refine wpAny_bind (wpAny_runValue (codeAny_builtin entry_proto_collect' ?_))
  show wpAny _ _ (do again (.builtin "list.__iadd__" ⟨[← newList [], .ref l], []⟩)) _ _ s
  refine wpAny_bind (wpAny_newList (wpAny_pure ⟨Code.quiet_builtin _ (by decide +kernel), codeAny_builtin entry_list_iadd' ?_⟩))
  show wpAny _ _ (Builtin.List.listExtendWith (.ref s.heap.objs.size) (.ref l) (.ref s.heap.objs.size)) _ _ { s with heap := s.heap.push (seqObj "list" #[] 0) }
  unfold Builtin.List.listExtendWith
  have ho' : (s.heap.push (seqObj "list" #[] 0)).get? l = some o := Heap.get?_push_of_some _ ho
  refine wpAny_bind (wpAny_typeOf (T := "tuple") ⟨o, ho', hc⟩ ?_)
  have ht : (Value.type "tuple" == Value.type "tuple") = true := by rfl
  rw [if_pos (by rw [ht]; simp)]
  refine wpAny_bind (listItems_at ho' hd ?_)
  refine wpAny_bind (listItems_at (xs := #[]) (n := 0) (Heap.get?_push_size _ rfl) rfl ?_)
  rw [if_neg (by simp)]
  refine wpAny_bind (listUpdate_at (xs := #[]) (n := 0) (Heap.get?_push_size _ rfl) rfl ?_ (Nat.zero_le _) (by show (#[] ++ vs.toArray).size ≤ sizeLine + 1; simp only [Array.size_append, List.size_toArray, List.length_nil]; omega))
  refine wpAny_pure ?_
  show wpAny (model P w) A (do
      let o ← load s.heap.objs.size
      match o.data with
      | .seq xs _ => pure xs.toList
      | _ => unsupported "internal:collect") Q E { s with heap := (s.heap.push (seqObj "list" #[] 0)).update s.heap.objs.size (Obj.mapSeq (· ++ vs.toArray)) }
  refine wpAny_bind (wpAny_load (get?_update_seq (Heap.get?_push_size _ rfl) _) ?_)
  show wpAny _ _ (pure ((#[] : Array Value) ++ vs.toArray).toList) Q E _
  rw [show ((#[] : Array Value) ++ vs.toArray).toList = vs by simp]
  exact wpAny_pure h
theorem sorted_of_tup {l : Addr} {vs : List Value} {ns : List Int} {Q : Value → Shared → Prop} (hl : s.heap.IsTuple l vs.toArray) (hsz : vs.length ≤ sizeLine) (areI : IntsAre vs ns)
    (fin : ∀ (h' : Heap) (p : Addr) (out : Array Value) (c : Nat) (ns' : List Int), (∀ b o, s.heap.get? b = some o → h'.get? b = some o) → s.heap.objs.size ≤ p → h'.get? p = some (seqObj "list" out c) → IntsAre out.toList ns' → ns'.Perm ns → ns'.Pairwise (· ≤ ·) → Q (.ref p) { s with heap := h' }) :
    wpAny (model P w) A (call (.builtin "sorted") [.ref l]) Q E s := by
  refine Calls.call_function_entry kind_sorted plain_sorted entry_sorted (args_sorted1 _) ?_
  unfold Builtin.«sorted»
  refine wpAny_bind (m := checkCount "sorted" 1 1 _) (wpAny_pure ?_)
  refine wpAny_bind (collect_tup hl hsz ?_)
  have k1 : ∀ b o, s.heap.get? b = some o → ((s.heap.push (seqObj "list" #[] 0)).update s.heap.objs.size (Obj.mapSeq (· ++ vs.toArray))).get? b = some o := fun b o q => by
    rw [Heap.get?_update_ne _ _ _ _ (Nat.ne_of_lt (Heap.lt_size q))]
    exact Heap.get?_push_of_some _ q
  have big : s.heap.objs.size ≤ ((s.heap.push (seqObj "list" #[] 0)).update s.heap.objs.size (Obj.mapSeq (· ++ vs.toArray))).objs.size := by
    rw [Heap.size_update, size_push']; omega
  generalize (s.heap.push (seqObj "list" #[] 0)).update s.heap.objs.size (Obj.mapSeq (· ++ vs.toArray)) = h1 at k1 big ⊢
  refine wpAny_bind (wpAny_newList ?_ hsz)
  have at1 : (h1.push (seqObj "list" vs.toArray 0)).get? h1.objs.size = some (seqObj "list" vs.toArray 0) := Heap.get?_push_size _ rfl
  refine wpAny_bind (wpAny_holding (wpAny_call_entry slot_list_sort ⟨_, at1, rfl⟩ entry_list_sort
    (SrtO.list_sort_ord SrtO.swo_int at1 hsz (fun h2 => SrtO.ints_sortable areI h2) fun out z1 z2 => ⟨_, rfl, ?_⟩) (args_list_sort _)))
  obtain ⟨j1, j2, j3⟩ := SrtO.ints_out areI z1 z2
  obtain ⟨c, hc⟩ := sortedHeap_at (vs := vs) (out := out.toArray) at1
  refine wpAny_pure ⟨_, rfl, fin _ h1.objs.size out.toArray c (out.map SrtO.iv) (fun b u e => ?_) big hc (by simpa using j1) j2 j3⟩
  have q := k1 b u e
  have lt := Heap.lt_size q
  rw [sortedHeap_old (Nat.ne_of_lt lt) (by rw [size_push']; exact Nat.lt_succ_of_lt lt)]
  exact Heap.get?_push_of_some _ q
end
section
variable {X : Cx}
def rSortTup (K : PySem.W.Frag) : List V → Hp → VK → Prop := fun xs H Q => ∃ (l : Addr) (ns : List Int), xs = [.ref l] ∧ SqT K H l (ns.map V.int) ∧
  ∀ (ns' : List Int) (p : Addr), ns'.Perm ns → ns'.Pairwise (· ≤ ·) → H p = none → Q (.ref p) (upd H p (.lst (ns'.map V.int)))
theorem cu_sortTup : CallR X (.builtin "sorted") (rSortTup X.K) := by
  intro pins s σ H vs us Q I r h
  obtain ⟨l, ns, rfl, hq, q⟩ := h
  rw [Vals.ref1 r]
  obtain ⟨its, rv, p, hz⟩ := I.tuple hq
  have areI : IntsAre its ns := rv.ints
  refine sorted_of_tup (show s.heap.IsTuple l its.toArray from p) (by rw [← rv.length]; exact hz) areI fun h' p' out c ns' k big got a1 a2 a3 => ?_
  have line : (ns'.map V.int).length ≤ sizeLine := by rw [List.length_map, a2.length_eq]; rw [List.length_map] at hz; exact hz
  have new : H p' = none := I.hok.fresh big
  exact ⟨.ref p', upd H p' (.lst (ns'.map V.int)), I.laid (t' := s.toks) k big ⟨line, out.toList, c, vals_of_ints a1, got⟩, rfl, q ns' p' a2 a3 new⟩
/-- sorted(d), d a dict whose keys are ints, of any size -/
def uSortDict : List V → Hp → VK → Prop := fun xs H Q => ∃ (a : Addr) (kvs : List (L2.Key × V)) (ks : List Int), xs = [.ref a] ∧ H a = some (.dK kvs) ∧ kvs.map (·.1) = ks.map Sum.inl ∧
  ∀ (ys : List Int) (p : Addr), ys.Perm ks → ys.Pairwise (· ≤ ·) → H p = none → Q (.ref p) (upd H p (.lst (ys.map V.int)))
theorem ints_each' : ∀ {us : List Value} {ks : List Int}, us.length = ks.length → (∀ (j : Nat) (v : Value), us[j]? = some v → ∃ (x : Int) (t : _), ks[j]? = some x ∧ v = .int x t) → IntsAre us ks
  | [], [], _, _ => .nil
  | u :: us, k :: ks, hl, h => by
    obtain ⟨x, t, e1, e2⟩ := h 0 u rfl
    have e1' : k = x := Option.some.inj e1
    subst e1'
    subst e2
    refine .cons _ _ (ints_each' (by simpa using hl) fun j v e => ?_)
    obtain ⟨x, t, a, b⟩ := h (j + 1) v (by simpa using e)
    exact ⟨x, t, by simpa using a, b⟩
  | [], _ :: _, hl, _ => by simp at hl
  | _ :: _, [], hl, _ => by simp at hl
theorem cu_sortDict (hcalm : X.calm = true) : CallR X (.builtin "sorted") uSortDict := by
  intro pins s σ H xs us Q I r q
  obtain ⟨a, kvs, ks, rfl, hd, hks, q⟩ := q
  rw [Vals.ref1 r]
  obtain ⟨z, lo, vs, rel, dd⟩ := dk_rd I.hok (.inl hd)
  obtain ⟨ep, hat⟩ := dd.dictAt
  have hkeys : vs.map (·.1) = ks.map Sum.inl := rel.keys.symm.trans hks
  have hl : vs.length = ks.length := by
    have e := congrArg List.length hkeys
    rw [List.length_map, List.length_map] at e
    exact e
  have h16 : vs.length ≤ sizeLine := by rw [← rel.length]; exact z
  refine Calls.call_function_entry kind_sorted plain_sorted entry_sorted (args_sorted1 _) ?_
  unfold Builtin.«sorted»
  refine wpAny_bind (m := checkCount "sorted" 1 1 _) (wpAny_pure ?_)
  refine wpAny_bind (PySem.W.kdu_collect (A := X.A.in1) (PySem.W.kdl_dict (knd := mixKind X.prog X.w) (kvs := vs) (ep := ep) lo) (I.ok.hd hcalm) hat h16 fun h' tk acc hk hacc => ?_)
  have hal : acc.toList.length = ks.length := by rw [Array.length_toList, hacc.1, hl]
  have areI : IntsAre acc.toList ks := ints_each' hal fun j v e => by
    obtain ⟨k, x, e1, e2⟩ := hacc.2 j v (by rw [← Array.getElem?_toList]; exact e)
    have e3 : (vs.map (·.1))[j]? = some k := by rw [List.getElem?_map, e1]; rfl
    rw [hkeys, List.getElem?_map] at e3
    cases e4 : ks[j]? with
    | none => rw [e4] at e3; cases e3
    | some y =>
      rw [e4] at e3
      have e5 : Sum.inl y = k := Option.some.inj e3
      subst e5
      rcases keyIs_shape (show keyIs (Sum.inl y) v = true from e2) with ⟨i, t, ek, ev⟩ | ⟨z, t, ek, ev⟩
      · cases ek
        exact ⟨y, t, rfl, ev⟩
      · cases ek
  have I1 : Inv X pins σ H { s with heap := h', toks := tk } := I.kept hk
  have hal2 : acc.toList.length ≤ sizeLine := by rw [hal, ← hl]; exact h16
  refine wpAny_bind (wpAny_newList ?_ hal2)
  have at1 : (h'.push (seqObj "list" acc.toList.toArray 0)).get? h'.objs.size = some (seqObj "list" acc.toList.toArray 0) := Heap.get?_push_size _ rfl
  show wpAny _ _ _ _ _ { s with heap := h'.push (seqObj "list" acc.toList.toArray 0), toks := tk }
  refine wpAny_bind (wpAny_holding (wpAny_call_entry slot_list_sort ⟨_, at1, rfl⟩ entry_list_sort
    (SrtO.list_sort_ord SrtO.swo_int (s := { s with heap := h'.push (seqObj "list" acc.toList.toArray 0), toks := tk }) at1 hal2 (fun h2 => SrtO.ints_sortable areI h2) fun out z1 z2 => ⟨_, rfl, ?_⟩) (args_list_sort _)))
  obtain ⟨j1, j2, j3⟩ := SrtO.ints_out areI z1 z2
  obtain ⟨c, hc⟩ := sortedHeap_at (vs := acc.toList) (out := out.toArray) at1
  have hlen : ((out.map SrtO.iv).map V.int).length ≤ sizeLine := by
    rw [List.length_map, j2.length_eq, ← hl]; exact h16
  refine wpAny_pure ⟨_, rfl, .ref h'.objs.size, upd H h'.objs.size (.lst ((out.map SrtO.iv).map V.int)), I1.laid (t' := tk) (fun b u e => ?_) (Nat.le_refl _)
    (show ObjOk X.prog X.w _ _ _ (.lst ((out.map SrtO.iv).map V.int)) from ⟨hlen, out, c, vals_of_ints j1, hc⟩), rfl, q _ _ j2 j3 (I1.hok.fresh (Nat.le_refl _))⟩
  have hb : b < h'.objs.size := Heap.lt_size e
  rw [sortedHeap_old (Nat.ne_of_lt hb) (by rw [size_push']; exact Nat.lt_succ_of_lt hb)]
  exact Heap.get?_push_of_some _ e
end
end Hm

/-! F2: rules by syntax alone (each a choice by values), and their readings. -/
namespace Hm
open PySem PySem.Spec PyProof.Rows L2

/-! ### choices by values -/
def bAdd (K : PySem.W.Frag) : R2 := fun x y H Q => rI0 (fun i j => .int (i + j)) x y H Q ∨ rCat x y H Q ∨
  (∃ i j, x = .str i ∧ y = .str j ∧ i.length + j.length ≤ sizeLine ∧ Q (.str (i ++ j)) H) ∨ rCatA K x y H Q
def bSub : R2 := rI0 fun i j => .int (i - j)
def bMul : R2 := fun x y H Q => rI CMul (fun i j => .int (i * j)) x y H Q ∨ rI CMulW (fun i j => .int (i * j)) x y H Q ∨ rRep x y H Q
def bMod : R2 := rI (fun _ j => 0 < j) fun i j => .int (i % j)
def bDiv : R2 := fun x y H Q => rI CDiv (fun i j => .int (i / j)) x y H Q ∨ rI CDivW (fun i j => .int (i / j)) x y H Q
def bPow : R2 := rI CPow fun i j => .int (i ^ j.toNat)
def bAnd : R2 := rI0 fun i j => .int (Builtin.bitAnd i j)
def bXor : R2 := rI0 fun i j => .int (Builtin.bitXor i j)
def cEq (K : PySem.W.Frag) : R2 := fun x y H Q => rEq x y H Q ∨ rEqD K x y H Q
def cNe (K : PySem.W.Frag) : R2 := fun x y H Q => rNe x y H Q ∨ rNeD K x y H Q
def cLt (K : PySem.W.Frag) : R2 := fun x y H Q => rI0 (fun i j => .bl (decide (i < j))) x y H Q ∨
  (∃ i j, x = .str i ∧ y = .str j ∧ Q (.bl (decide (i.cps.toList < j.cps.toList))) H) ∨ rLtT K x y H Q
def cLe : R2 := rI0 fun i j => .bl (decide (i ≤ j))
def cGt : R2 := rI0 fun i j => .bl (decide (j < i))
def cGe : R2 := rI0 fun i j => .bl (decide (j ≤ i))
def cIs : R2 := fun x y H Q => (y = .non ∧ Q (.bl (decide (x = .non))) H) ∨ rIsB x y H Q
def cIsNot : R2 := fun x y H Q => (y = .non ∧ Q (.bl (!decide (x = .non))) H) ∨ rNotB x y H Q
def cIn (P : Program) (w : World) (K : PySem.W.Frag) : R2 := fun x y H Q => rIn K false x y H Q ∨ rInD K x y H Q ∨ rInS x y H Q ∨ uDIn false x y H Q ∨ uNIn P w false x y H Q
def cNotIn (P : Program) (w : World) (K : PySem.W.Frag) : R2 := fun x y H Q => rIn K true x y H Q ∨ rNotInD K x y H Q ∨ rNotInS x y H Q ∨ uDIn true x y H Q ∨ uNIn P w true x y H Q
def bIx (P : Program) (w : World) (K : PySem.W.Frag) : R2 := fun x y H Q => rIxL K x y H Q ∨ rIxT K x y H Q ∨ rIxS x y H Q ∨ uDIx x y H Q ∨ uNIx P w x y H Q
def bSet (P : Program) (w : World) : TSet := fun o i v H Q => rSetL o i v H Q ∨ uDSet o i v H Q ∨ uNSet P w o i v H Q
def kLen (K : PySem.W.Frag) : List V → Hp → VK → Prop := fun xs H Q => (∃ x n, xs = [x] ∧ LenV K x H n ∧ Q (.int n) H) ∨ (∃ a kvs, xs = [V.ref a] ∧ H a = some (.dK kvs) ∧ Q (.int kvs.length) H)
def kList (K : PySem.W.Frag) : List V → Hp → VK → Prop := fun xs H Q => (∃ p ys, xs = [.ref p] ∧ (SqL K H p ys ∨ SqT K H p ys) ∧ ∀ l, H l = none → Q (.ref l) (upd H l (.lst ys))) ∨ rListD xs H Q
def kTuple (K : PySem.W.Frag) : List V → Hp → VK → Prop := fun xs H Q => ∃ p ys, xs = [.ref p] ∧ ((SqL K H p ys ∧ ∀ l, H l = none → Q (.ref l) (upd H l (.tup ys))) ∨ (SqT K H p ys ∧ Q (.ref p) H))
def kSorted (K : PySem.W.Frag) (w : World) : List V → Hp → VK → Prop := fun xs H Q => rSortedI K xs H Q ∨ uSortSet w xs H Q ∨ rSortTup K xs H Q ∨ uSortDict xs H Q
def kMax (K : PySem.W.Frag) : List V → Hp → VK → Prop := fun xs H Q => (∃ i j, xs = [.int i, .int j] ∧ Q (.int (if j > i then j else i)) H) ∨ rMax K xs H Q
def kMin (K : PySem.W.Frag) : List V → Hp → VK → Prop := fun xs H Q => (∃ i j, xs = [.int i, .int j] ∧ Q (.int (if j < i then j else i)) H) ∨ rMin K xs H Q
def kAbs : List V → Hp → VK → Prop := fun xs H Q => ∃ i, xs = [.int i] ∧ Q (.int (if i < 0 then -i else i)) H
def kInt : List V → Hp → VK → Prop := fun xs H Q => (∃ i, xs = [.int i] ∧ Q (.int i) H) ∨ ∃ k, xs = [.bl k] ∧ Q (.int (if k then 1 else 0)) H
def tTru (K : PySem.W.Frag) (ta : TE) : TT := fun σ H Q => ta σ H fun x H' => ∃ k, TruV K x H' k ∧ Q k H'
def bSl (K : PySem.W.Frag) : V → Option Int → Option Int → Hp → VK → Prop := fun x lo hi H Q => rSlL K x lo hi H Q ∨ rSlA K x lo hi H Q
/-- (a, b) = a tuple or a list of that length -/
def gSeq (K : PySem.W.Frag) (n : Nat) (t : TGs) : TG := fun v σ H Q => gTup K n t v σ H Q ∨ gUnl K n t v σ H Q
def kInsert : V → List V → Hp → VK → Prop := fun x vs H Q => ∃ (l : Addr) (xs : List V) (i : Int) (y : V), x = .ref l ∧ vs = [.int i, y] ∧ H l = some (.lst xs) ∧ xs.length < sizeLine ∧ 0 ≤ i ∧ i < 2 ^ 63 ∧
    Q .non (upd H l (.lst (xs.take i.toNat ++ [y] ++ xs.drop i.toNat)))
def kIndex (K : PySem.W.Frag) : V → List V → Hp → VK → Prop := fun x xs H Q => rIndex K x xs H Q ∨ rIndexD K x xs H Q

def rTupIndex (K : PySem.W.Frag) : V → List V → Hp → VK → Prop := fun x xs H Q => ∃ p, ∃ ys : List Str, ∃ z j, x = .ref p ∧ xs = [.str z] ∧ SqT K H p (ys.map V.str) ∧ ys[j]? = some z ∧ (∀ m, m < j → ys[m]? ≠ some z) ∧ Q (.int (j : Nat)) H

section
variable {X : Cx}
theorem hu64 {k : Nat} {A : Around} (hr : Room k A) : A.units + 64 < cLine := hr.units
theorem hu1 {k : Nat} {A : Around} (hr : Room k A) : A.units + 1 < cLine := by have := hr.un; omega
theorem hu65 {k : Nat} {A : Around} (hr : Room k A) : A.units + 65 < cLine := by have := hr.un; omega
theorem o_add : OpR X (binaryOp .Add) (bAdd X.K) := op_add.or (op_cat.or (op_add_str.or op_catA))
theorem o_sub : OpR X (binaryOp .Sub) bSub := op_sub
theorem o_mul : OpR X (binaryOp .Mult) bMul := op_mul.or (op_mulW.or op_rep)
theorem o_mod : OpR X (binaryOp .Mod) bMod := op_mod
theorem o_div : OpR X (binaryOp .FloorDiv) bDiv := op_fdiv.or op_fdivW
theorem o_pow : OpR X (binaryOp .Pow) bPow := op_pow
theorem o_and : OpR X (binaryOp .BitAnd) bAnd := op_and
theorem o_xor : OpR X (binaryOp .BitXor) bXor := op_xor
theorem o_eq (hu : X.A.units + 64 < cLine) : OpR X (compareOp .Eq) (cEq X.K) := op_eq.or (op_eqD hu)
theorem o_ne (hu : X.A.units + 64 < cLine) : OpR X (compareOp .NotEq) (cNe X.K) := op_ne.or (op_neD hu)
theorem o_lt (hu : X.A.units + 64 < cLine) : OpR X (compareOp .Lt) (cLt X.K) := op_lt.or (op_lt_str.or (op_ltT (by omega)))
theorem o_le : OpR X (compareOp .LtE) cLe := op_le
theorem o_gt : OpR X (compareOp .Gt) cGt := op_gt
theorem o_ge : OpR X (compareOp .GtE) cGe := op_ge
theorem o_is : OpR X (compareOp .Is) cIs := op_isN.or op_isBl
theorem o_isnot : OpR X (compareOp .IsNot) cIsNot := op_notN.or op_notBl
theorem o_in (hu : X.A.units + 65 < cLine) : OpR X (compareOp .In) (cIn X.prog X.w X.K) := op_in_seq.or ((op_inD hu).or (op_inS.or ((ou_din (by omega)).or (ou_nin (by omega)))))
theorem o_notin (hu : X.A.units + 65 < cLine) : OpR X (compareOp .NotIn) (cNotIn X.prog X.w X.K) := op_notIn_seq.or ((op_notInD hu).or (op_notInS.or ((ou_dnotin (by omega)).or (ou_nnotin (by omega)))))
theorem x_ix (hu : X.A.units + 64 < cLine) : IxR X (bIx X.prog X.w X.K) := ix_list.or (ix_tup.or (ix_str.or ((ix_d hu).or (ix_nd hu))))
theorem s_set (hu : X.A.units + 64 < cLine) : PSet X (bSet X.prog X.w) := PSet.or set_list (PSet.or (set_d hu) (set_nd hu))
theorem k_len : CallR X (.builtin "len") (kLen X.K) := call_len.or call_lenD
theorem k_list (hc : X.calm = true) : CallR X (.type "list") (kList X.K) := call_list_of.or (call_list_dK hc)
theorem k_tuple : CallR X (.type "tuple") (kTuple X.K) := call_tuple_of
theorem k_sorted (hc : X.calm = true) : CallR X (.builtin "sorted") (kSorted X.K X.w) := cr_sortedI.or ((cu_sortSet hc).or (cu_sortTup.or (cu_sortDict hc)))
theorem k_set (hc : X.calm = true) : CallR X (.type "set") (uSetI X.K X.w) := cu_setI hc
theorem k_max (hc : X.calm = true) : CallR X (.builtin "max") (kMax X.K) := (call_max2 hc).or (cr_max hc)
theorem k_min (hc : X.calm = true) : CallR X (.builtin "min") (kMin X.K) := (call_min2 hc).or (cr_min hc)
theorem k_abs : CallR X (.builtin "abs") kAbs := call_abs
theorem k_int : CallR X (.type "int") kInt := call_int1
theorem k_isi : CallR X (.builtin "isinstance") (rIsi X.K) := call_isi
theorem p_tru {a : Expr} {ta : TE} (ha : PE X a ta) (he : ∀ whole, isTrue a X.env whole = (do let v ← whole; standAt a.pos; holding [v] (truthy v)) := by intro _; rfl) : PT X a (tTru X.K ta) := pt_truth ha he
theorem s_sl : SlR X (bSl X.K) := sl_list.or sl_tupA
theorem g_seq {es : List Expr} {k : Nat} {t : TGs} {n : Nat} {pos : Pos} (hc : X.calm = true) (h : PGs X es t)
    (hn : (assignEach es X.env).length = n := by rfl) (hst : (assignEach es X.env).findIdx? (·.1) = none := by rfl) : PG X (.Tuple es k pos) (gSeq X.K n t) := by
  refine ⟨fun pins s σ H v u Q I r hw => ?_⟩
  rcases hw with hw | hw
  · exact (pg_tup hc h hn hst).run pins s σ H v u Q I r hw
  · exact (pg_unl hc h hn hst).run pins s σ H v u Q I r hw
/-- what a for walks, by its value -/
def kIter (K : PySem.W.Frag) (x : V) (H : Hp) (R : It → Hp → Prop) : Prop := (∃ a, x = .ref a ∧ (∃ xs, SqL K H a xs) ∧ R (Itl K a) H) ∨ (∃ a, x = .ref a ∧ (∃ xs, SqT K H a xs) ∧ R (Itt K a) H) ∨ ∃ z, x = .str z ∧ R (Its z) H
def iAny (K : PySem.W.Frag) (tl : TE) : TI := fun σ H R => tl σ H fun x H1 => kIter K x H1 R
theorem pi_any {tg l : Expr} {tl : TE} (hl : PE X l tl) : PI X tg l (iAny X.K tl) := by
  refine ⟨fun pins s σ H R I h => thn (hl.run pins s σ H _ I h) fun v s1 ⟨x, H1, I1, r1, q1⟩ => ?_⟩
  have own : ∀ {Q : Hp}, Inv X pins σ Q s1 → ∀ b ∈ [s1.heap.objs.size], FpOk X pins Q b := fun J b hb => by
    cases List.mem_singleton.mp hb
    exact J.fpOk (Nat.le_refl _) (J.hok.fresh (Nat.le_refl _))
  rcases q1 with ⟨a, rfl, ⟨xs, hq⟩, q⟩ | ⟨a, rfl, ⟨xs, hq⟩, q⟩ | ⟨z, rfl, q⟩
  · cases r1
    obtain ⟨its, rv, p, hz⟩ := I1.list hq
    exact wpAny_pyIter_list p.isList ⟨_, [s1.heap.objs.size], _, _, H1, rfl, I1.kept (t' := s1.toks) fun b o e => Heap.get?_push_of_some _ e, turn_list a _, ⟨_, Heap.get?_push_size _ rfl, rfl, rfl⟩, own I1, q⟩
  · cases r1
    obtain ⟨its, rv, p, hz⟩ := I1.tuple hq
    exact wpAny_pyIter_tuple (show s1.heap.IsTuple a its.toArray from p) ⟨_, [s1.heap.objs.size], _, _, H1, rfl, I1.kept (t' := s1.toks) fun b o e => Heap.get?_push_of_some _ e, turn_tuple a _, ⟨_, Heap.get?_push_size _ rfl, rfl, rfl⟩, own I1, q⟩
  · obtain ⟨t, rfl⟩ := r1
    cases ha : z.cps.all (· < 128)
    · exact wpAny_pyIter_wide ha (pi_one (tk := s1.toks) I1 _ (turn_str _ z t "str_iterator" (.inr rfl)) ⟨_, Heap.get?_push_size _ rfl, rfl, rfl⟩ q)
    · exact wpAny_pyIter_ascii ha (pi_one (tk := s1.toks) I1 _ (turn_str _ z t "str_ascii_iterator" (.inl rfl)) ⟨_, Heap.get?_push_size _ rfl, rfl, rfl⟩ q)
theorem mt_kindex (hu : X.A.units + 65 < cLine) : MtR X "list.index" (kIndex X.K) := mt_index.or (mt_indexD hu)
end
/-! ### defs, methods, classes of the text, by their promises -/
structure Cal (P : Program) (w : World) (K : PySem.W.Frag) (mg : Str → Option Value) (base : Heap) (CX : CXT) (k : Nat) (x : Str) (sp : Sp) : Prop where
  ex : ∃ (f : Addr) (fd : FuncData) (ps : List Str), FnOk P w K mg base CX k f fd ps sp ∧ mg x = some (.ref f) ∧ PySem.W.keepIn K (.ref f) = true ∧ Binds K fd ps []
structure Met (P : Program) (w : World) (K : PySem.W.Frag) (mg : Str → Option Value) (base : Heap) (CX : CXT) (k : Nat) (C : Addr) (m : Str) (sp : Sp) : Prop where
  ex : ∃ (f : Addr) (fd : FuncData) (ps : List Str), Cls K C ∧ Meth K C m f ∧ FnOk P w K mg base CX k f fd ps sp ∧ Binds K fd ps []
structure Mak (P : Program) (w : World) (K : PySem.W.Frag) (mg : Str → Option Value) (base : Heap) (CX : CXT) (k : Nat) (x : Str) (C : Addr) (sp : Sp) : Prop where
  ex : ∃ (f : Addr) (fd : FuncData) (ps : List Str), Mk K C f ∧ FnOk P w K mg base CX k f fd ps sp ∧ mg x = some (.ref C) ∧ Binds K fd ps []
section
variable {X : Cx} {CX : CXT} {E : XK} {k j : Nat} {C : Addr} {x m : Str} {sp : Sp} {p pos apos : Pos} {e o : Expr} {es : List Expr} {ta : TE} {t : TA}
theorem e_call (c : Cal X.prog X.w X.K X.mg X.base CX k x sp) (hr : Room j X.A) (hk : k ≤ j) (hx : Passes CX X E) (hg : Gl X x) (ha : PA X (e :: es) t)
    (hdb : (x == ("__debug__" : Str)) = false := by decide) (he : starEach (e :: es) X.env = (false, eval e X.env) :: starEach es X.env := by rfl) (hpl : (backTo pos (starEach es X.env)).any (·.1) = false := by rfl) :
    PE X (.Call (.Name x p) (e :: es) [] pos) (tCall sp [] E t) := by
  obtain ⟨f, fd, ps, F, hm, kp, b⟩ := c.ex
  exact pe_call F (hr.mono hk) hg hm kp b .nil hx ha hdb he hpl
theorem e_call0 (c : Cal X.prog X.w X.K X.mg X.base CX k x sp) (hr : Room j X.A) (hk : k ≤ j) (hx : Passes CX X E) (hg : Gl X x) (hdb : (x == ("__debug__" : Str)) = false := by decide) :
    PE X (.Call (.Name x p) [] [] pos) (tCall sp [] E tNil) := by
  obtain ⟨f, fd, ps, F, hm, kp, b⟩ := c.ex
  exact pe_call0 F (hr.mono hk) hg hm kp b .nil hx hdb
theorem e_make (c : Mak X.prog X.w X.K X.mg X.base CX k x C sp) (hr : Room j X.A) (hk : k + 1 ≤ j) (hx : Passes CX X E) (hg : Gl X x) (ha : PA X (e :: es) t)
    (hdb : (x == ("__debug__" : Str)) = false := by decide) (he : starEach (e :: es) X.env = (false, eval e X.env) :: starEach es X.env := by rfl) (hpl : (backTo pos (starEach es X.env)).any (·.1) = false := by rfl) :
    PE X (.Call (.Name x p) (e :: es) [] pos) (tMake C sp [] E t) := by
  obtain ⟨f, fd, ps, M, F, hm, b⟩ := c.ex
  exact pe_make M F (hr.mono hk) hg hm b .nil hx ha hdb he hpl
theorem e_make0 (c : Mak X.prog X.w X.K X.mg X.base CX k x C sp) (hr : Room j X.A) (hk : k + 1 ≤ j) (hx : Passes CX X E) (hg : Gl X x) (hdb : (x == ("__debug__" : Str)) = false := by decide) :
    PE X (.Call (.Name x p) [] [] pos) (tMake C sp [] E tNil) := by
  obtain ⟨f, fd, ps, M, F, hm, b⟩ := c.ex
  exact pe_make0 M F (hr.mono hk) hg hm b .nil hx hdb
theorem e_meth {pl : Sem Bool} (c : Met X.prog X.w X.K X.mg X.base CX k C m sp) (hr : Room j X.A) (hk : k ≤ j) (hx : Passes CX X E) (he : PE X o ta) (ha : PA X (e :: es) t)
    (h1 : starEach (e :: es) X.env = (false, eval e X.env) :: starEach es X.env := by rfl) (h2 : (backTo pos (starEach es X.env)).any (·.1) = false := by rfl)
    (h3 : eval (.Call (.Attribute o m apos) (e :: es) [] pos) X.env = (do let ov ← eval o X.env; standAt apos.atName; let (f, first) ← holding [ov] (getMethod ov m pl)
                                                                          callWith pos f first (backTo pos (starEach (e :: es) X.env)) (backToKw pos (keywordEach [] X.env))) := by rfl) :
    PE X (.Call (.Attribute o m apos) (e :: es) [] pos) (tMeth C m sp [] E ta t) := by
  obtain ⟨f, fd, ps, hc, hm, F, b⟩ := c.ex
  exact pe_meth (pl := pl) he hc hm F (hr.mono hk) b .nil hx ha h1 h2 h3
theorem e_meth0 {pl : Sem Bool} (c : Met X.prog X.w X.K X.mg X.base CX k C m sp) (hr : Room j X.A) (hk : k ≤ j) (hx : Passes CX X E) (he : PE X o ta)
    (h3 : eval (.Call (.Attribute o m apos) [] [] pos) X.env = (do let ov ← eval o X.env; standAt apos.atName; let (f, first) ← holding [ov] (getMethod ov m pl)
                                                                   callWith pos f first (backTo pos (starEach [] X.env)) (backToKw pos (keywordEach [] X.env))) := by rfl) :
    PE X (.Call (.Attribute o m apos) [] [] pos) (tMeth C m sp [] E ta tNil) := by
  obtain ⟨f, fd, ps, hc, hm, F, b⟩ := c.ex
  exact pe_meth0 (pl := pl) he hc hm F (hr.mono hk) b .nil hx h3
end
end Hm

/-! F3: readings, one lemma a head. -/
namespace Hm
open PySem L2

/-! ### heaps -/
/-- what stood stands, but for the cells of M -/
def Keep (M : Addr → Prop) (H H' : Hp) : Prop := ∀ a o, ¬ M a → H a = some o → H' a = some o
abbrev Nil : Addr → Prop := fun _ => False
theorem Keep.refl {M : Addr → Prop} {H : Hp} : Keep M H H := fun _ _ _ h => h
theorem Keep.trans {M : Addr → Prop} {H H1 H2 : Hp} (a : Keep M H H1) (b : Keep M H1 H2) : Keep M H H2 := fun c o n h => b c o n (a c o n h)
theorem Keep.mono {M N : Addr → Prop} {H H' : Hp} (k : Keep M H H') (s : ∀ a, M a → N a) : Keep N H H' := fun a o n h => k a o (fun z => n (s a z)) h
theorem Keep.weak {M : Addr → Prop} {H H' : Hp} (k : Keep Nil H H') : Keep M H H' := k.mono fun _ z => z.elim
theorem Keep.new {M : Addr → Prop} {H H' : Hp} {p : Addr} {o : HO} (k : Keep M H H') (hp : H' p = none) : Keep M H (upd H' p o) := fun a u n h => by
  rw [upd_ne (ne_of_none (k a u n h) hp)]; exact k a u n h
theorem Keep.alloc {M : Addr → Prop} {H : Hp} {p : Addr} {o : HO} (hp : H p = none) : Keep M H (upd H p o) := Keep.refl.new hp
theorem Keep.set {M : Addr → Prop} {H H' : Hp} {p : Addr} {o : HO} (k : Keep M H H') (hp : M p) : Keep M H (upd H' p o) := fun a u n h => by
  rw [upd_ne (fun z => n (by rw [z]; exact hp))]; exact k a u n h
/-- a cell that was new at the start may be forgotten -/
theorem Keep.hide {M : Addr → Prop} {H H' : Hp} {l : Addr} (k : Keep (fun a => M a ∨ a = l) H H') (hl : H l = none) : Keep M H H' := fun a o n h =>
  k a o (fun z => z.elim n fun e => by rw [e, hl] at h; cases h) h
theorem Keep.setN {M : Addr → Prop} {H H' : Hp} {p : Addr} {o : HO} (k : Keep M H H') (hp : H p = none) : Keep M H (upd H' p o) := fun a u n h => by
  rw [upd_ne (fun z => by rw [z, hp] at h; cases h)]; exact k a u n h
theorem Keep.get {M : Addr → Prop} {H H' : Hp} {a : Addr} {o : HO} (k : Keep M H H') (n : ¬ M a) (h : H a = some o) : H' a = some o := k a o n h
theorem is_upd {H : Hp} {p a : Addr} {o : HO} {v : Option HO} (e : upd H p o a = v) : upd H p o a = v := e
theorem upd_at {H : Hp} {p : Addr} {o o' : HO} (e : o = o') : upd H p o p = some o' := by rw [upd_same, e]
theorem get_new {H : Hp} {a p : Addr} {o u : HO} (hp : H p = none) (h : H a = some o) : upd H p u a = some o := by rw [upd_ne (ne_of_none h hp)]; exact h
theorem get_set {H : Hp} {a p : Addr} {o u : HO} (n : a ≠ p) (h : H a = some o) : upd H p u a = some o := by rw [upd_ne n]; exact h
theorem get_setK {H : Hp} {a p : Addr} {o u u0 : HO} (hp : H p = some u0) (h : H a = some o) (d : o ≠ u0) : upd H p u a = some o := get_set (ne_of h hp d) h
theorem ne_old {H : Hp} {a p : Addr} {o : HO} (hp : H p = none) (h : H a = some o) : a ≠ p := ne_of_none h hp
theorem ne_new {H : Hp} {a p : Addr} {o : HO} (hp : H p = none) (h : H a = some o) : p ≠ a := (ne_of_none h hp).symm
theorem none_of_upd {H : Hp} {a p : Addr} {o : HO} (h : upd H p o a = none) : H a = none := by
  unfold upd at h; split at h
  · cases h
  · exact h
theorem none_ne {H : Hp} {a p : Addr} {o : HO} (h : upd H p o a = none) : a ≠ p := fun z => by rw [z, upd_same] at h; cases h
theorem none_ne' {H : Hp} {a p : Addr} {o : HO} (h : upd H p o a = none) : p ≠ a := (none_ne h).symm

theorem seq_keep {K : PySem.W.Frag} {H H' : Hp} {a : Addr} {xs : List V} (k : Keep Nil H H') (h : SqL K H a xs) : SqL K H' a xs := Same.seq (fun b o e => k b o (fun z => z) e) h
theorem seq_new {K : PySem.W.Frag} {H : Hp} {a p : Addr} {o : HO} {xs : List V} (hp : H p = none) (h : SqL K H a xs) : SqL K (upd H p o) a xs := seq_keep (Keep.alloc hp) h
theorem keep_none {H H' : Hp} {p : Addr} (k : Keep Nil H H') (h : H' p = none) : H p = none := by
  cases e : H p with
  | none => rfl
  | some o => rw [k p o (fun z => z) e] at h; cases h
section
variable {P : Program} {w : World} {K : PySem.W.Frag} {σ : St} {H : Hp} {Q : VK} {D : Ends} {C : Addr} {E : XK} {sp : Sp} {f m : Str}
variable {t u tb : TS} {te ta td tv : TE} {tt : TT} {tr : TA} {g : TG} {i j : Nat} {v x y : V} {r : R2}

/-! ### constants of the text -/
theorem gint {mg : Str → Option Value} {x : Str} {i : Int} (h : ∃ t, mg x = some (.int i t)) : ∃ u, mg x = some u ∧ RelV (.int i) u := by
  obtain ⟨t, e⟩ := h
  exact ⟨_, e, t, rfl⟩
theorem gstr {mg : Str → Option Value} {x z : Str} (h : ∃ t, mg x = some (.str z t)) : ∃ u, mg x = some u ∧ RelV (.str z) u := by
  obtain ⟨t, e⟩ := h
  exact ⟨_, e, t, rfl⟩
/-! ### statements -/
theorem absQ {S : Hp → Prop} {v : V} (h : S H) (k : ∀ HT, S HT → Q v HT) : Q v H := k H h
theorem absS {S : Hp → Prop} (h : S H) (k : ∀ HT, S HT → t D σ HT) : t D σ H := k H h

theorem absT {S : Hp → Prop} {R : Bool → Hp → Prop} (h : S H) (k : ∀ HT, S HT → tt σ HT R) : tt σ H R := k H h
theorem absE {S : Hp → Prop} (h : S H) (k : ∀ HT, S HT → te σ HT Q) : te σ H Q := k H h
theorem r_seq (h : t { D with nx := u D } σ H) : tSeq t u D σ H := h
theorem r_nx {n b c : L2.St → Hp → Prop} {rt : VK} (h : n σ H) : (Ends.mk n rt b c).nx σ H := h
theorem r_rt {n b c : L2.St → Hp → Prop} {rt : VK} (h : rt v H) : (Ends.mk n rt b c).rt v H := h
theorem r_bk {n b c : L2.St → Hp → Prop} {rt : VK} (h : b σ H) : (Ends.mk n rt b c).bk σ H := h
theorem r_ct {n b c : L2.St → Hp → Prop} {rt : VK} (h : c σ H) : (Ends.mk n rt b c).ct σ H := h
theorem r_next (h : D.nx σ H) : tNext D σ H := h
theorem r_asg (h : te σ H fun x H1 => g x σ H1 D.nx) : tAsg te g D σ H := h
theorem r_gname {Q : St → Hp → Prop} (h : Q (σ.set i (some v)) H) : gName i v σ H Q := h
theorem r_drop (h : te σ H fun _ H1 => D.nx σ H1) : tDrop te D σ H := h
theorem r_ret (h : te σ H D.rt) : tRet te D σ H := h
theorem r_if (h : tt σ H fun b H1 => if b = true then t D σ H1 else u D σ H1) : tIfS tt t u D σ H := h
theorem r_brk (h : D.bk σ H) : tBreak D σ H := h
theorem r_cont (h : D.ct σ H) : tCont D σ H := h
theorem r_par {tas : TA} (h : tas σ H fun vs H1 => ∃ v w, vs = [v, w] ∧ D.nx ((σ.set i (some v)).set j (some w)) H1) : tPar i j tas D σ H := h
theorem r_par2 {v w : V} {R : V → V → Prop} (h : R v w) : ∃ v' w', [v, w] = [v', w'] ∧ R v' w' := ⟨v, w, rfl, h⟩
/-! ### tests -/
def kB (x : V) (R : Bool → Prop) : Prop := ∃ k, x = .bl k ∧ R k
theorem r_test {R : Bool → Hp → Prop} (h : te σ H fun x H' => kB x fun k => R k H') : tTest te σ H R := h
theorem r_kB {b : Bool} {R : Bool → Prop} (h : R b) : kB (.bl b) R := ⟨b, rfl, h⟩
theorem r_and {t1 t2 : TT} {R : Bool → Hp → Prop} (h : t1 σ H fun c H1 => if c = true then t2 σ H1 R else R false H1) : tAnd t1 t2 σ H R := h
theorem r_or {t1 t2 : TT} {R : Bool → Hp → Prop} (h : t1 σ H fun c H1 => if c = true then R true H1 else t2 σ H1 R) : tOr t1 t2 σ H R := h
theorem r_not {t1 : TT} {R : Bool → Hp → Prop} (h : t1 σ H fun c H1 => R (!c) H1) : tNot t1 σ H R := h
theorem r_tru {R : Bool → Hp → Prop} (h : te σ H fun x H' => ∃ k, TruV K x H' k ∧ R k H') : tTru K te σ H R := h
theorem r_tru_bl {b : Bool} {R : Bool → Prop} (h : R b) : ∃ k, TruV K (.bl b) H k ∧ R k := ⟨b, rfl, h⟩
theorem r_ite_tt {A B : Prop} (h : A) : if true = true then A else B := by rw [if_pos rfl]; exact h
theorem r_ite_ff {A B : Prop} (h : B) : if false = true then A else B := by rw [if_neg Bool.false_ne_true]; exact h
theorem r_ite {p A B : Prop} [Decidable p] (h1 : p → A) (h2 : ¬ p → B) : if decide p = true then A else B := by
  by_cases h : p
  · rw [if_pos (decide_eq_true h)]; exact h1 h
  · rw [if_neg (by simp [h])]; exact h2 h
theorem r_iteT' {p A B : Prop} [Decidable p] (c : p) (h : A) : if decide p = true then A else B := by rw [if_pos (decide_eq_true c)]; exact h
theorem r_iteF' {p A B : Prop} [Decidable p] (c : ¬ p) (h : B) : if decide p = true then A else B := by rw [if_neg (by simp [c])]; exact h
theorem r_iteNT' {p A B : Prop} [Decidable p] (c : ¬ p) (h : A) : if (!decide p) = true then A else B := by rw [if_pos (by simp [c])]; exact h
theorem r_iteNF' {p A B : Prop} [Decidable p] (c : p) (h : B) : if (!decide p) = true then A else B := by rw [if_neg (by simp [c])]; exact h
theorem r_ite_nt {A B : Prop} (h : B) : if (!true) = true then A else B := by rw [if_neg (by simp)]; exact h
theorem r_ite_nf {A B : Prop} (h : A) : if (!false) = true then A else B := by rw [if_pos (by simp)]; exact h
theorem r_iteN {p A B : Prop} [Decidable p] (h1 : ¬ p → A) (h2 : p → B) : if (!decide p) = true then A else B := by
  by_cases h : p
  · rw [if_neg (by simp [h])]; exact h2 h
  · rw [if_pos (by simp [h])]; exact h1 h
theorem r_iteB {b : Bool} {A B : Prop} (h1 : b = true → A) (h2 : b = false → B) : if b = true then A else B := by
  cases b
  · exact r_ite_ff (h2 rfl)
  · exact r_ite_tt (h1 rfl)
theorem r_iteNB {b : Bool} {A B : Prop} (h1 : b = false → A) (h2 : b = true → B) : if (!b) = true then A else B := by
  cases b
  · exact r_ite_tt (h1 rfl)
  · exact r_ite_ff (h2 rfl)
theorem r_ite_if {b : Bool} {A B : Prop} (hb : b = true) (h : A) : if b = true then A else B := by rw [if_pos hb]; exact h
theorem r_ite_else {b : Bool} {A B : Prop} (hb : b = false) (h : B) : if b = true then A else B := by rw [hb, if_neg Bool.false_ne_true]; exact h
/-! ### values -/
theorem r_var (h : σ[i]? = some (some v)) (k : Q v H) : tVar i σ H Q := ⟨v, h, k⟩
theorem r_c (k : Q v H) : tC v σ H Q := k
theorem r_op (k : ta σ H fun x H1 => te σ H1 fun y H2 => r x y H2 Q) : tOp r ta te σ H Q := k
theorem r_un {q : V → Hp → VK → Prop} (k : ta σ H fun x H1 => q x H1 Q) : tUn q ta σ H Q := k
theorem r_rU {gI : Int → V} {z : Int} (k : Q (gI z) H) : rU gI (.int z) H Q := ⟨z, rfl, k⟩
theorem r_nil {R : List V → Hp → Prop} (k : R [] H) : tNil σ H R := k
theorem r_cons {R : List V → Hp → Prop} (k : te σ H fun x H1 => tr σ H1 fun xs H2 => R (x :: xs) H2) : tCons te tr σ H R := k
theorem r_cb {q : List V → Hp → VK → Prop} (k : tr σ H fun vs H1 => q vs H1 Q) : tCB q tr σ H Q := k
theorem r_call (k : tr σ H fun vs H1 => sp vs H1 Q E) : tCall sp [] E tr σ H Q := by
  have e : (fun vs H1 => sp (vs ++ []) H1 Q E) = fun vs H1 => sp vs H1 Q E := by funext vs H1; rw [List.append_nil]
  show tr σ H fun vs H1 => sp (vs ++ []) H1 Q E
  rw [e]; exact k
def kMeth (C : Addr) (m : Str) (sp : Sp) (E : XK) (tr : TA) (σ : St) (x : V) (H : Hp) (Q : VK) : Prop := ∃ a dx fs, x = .ref a ∧ H a = some (.ins C dx fs) ∧ fs.lookup m = none ∧ tr σ H fun vs H2 => sp (x :: vs) H2 Q E
theorem r_meth (k : ta σ H fun x H1 => kMeth C m sp E tr σ x H1 Q) : tMeth C m sp [] E ta tr σ H Q := by
  have e : ∀ x, (fun vs H1 => sp (x :: (vs ++ [])) H1 Q E) = fun vs H1 => sp (x :: vs) H1 Q E := fun x => by funext vs H1; rw [List.append_nil]
  show ta σ H fun x H1 => ∃ a dx fs, x = .ref a ∧ H1 a = some (.ins C dx fs) ∧ fs.lookup m = none ∧ tr σ H1 fun vs H2 => sp (x :: (vs ++ [])) H2 Q E
  simp only [e]; exact k
theorem r_kmeth {a dx : Addr} {fs : List (Str × V)} (h : H a = some (.ins C dx fs)) (l : fs.lookup m = none) (k : tr σ H fun vs H2 => sp (.ref a :: vs) H2 Q E) : kMeth C m sp E tr σ (.ref a) H Q := ⟨a, dx, fs, rfl, h, l, k⟩
theorem r_make (k : tr σ H fun vs H1 => ∀ x dx, H1 x = none → H1 dx = none → dx ≠ x → sp (.ref x :: vs) (upd (upd H1 dx (.own x)) x (.ins C dx [])) (fun v H2 => v = .non ∧ Q (.ref x) H2) E) : tMake C sp [] E tr σ H Q := by
  have e : ∀ (x : Addr) (S : VK), (fun vs H1 => sp (.ref x :: (vs ++ [])) H1 S E) = fun vs H1 => sp (.ref x :: vs) H1 S E := fun x S => by funext vs H1; rw [List.append_nil]
  show tr σ H fun vs H1 => ∀ x dx, H1 x = none → H1 dx = none → dx ≠ x → sp (.ref x :: (vs ++ [])) (upd (upd H1 dx (.own x)) x (.ins C dx [])) (fun v H2 => v = .non ∧ Q (.ref x) H2) E
  simp only [List.append_nil]; exact k
def kFld (K : PySem.W.Frag) (f : Str) (x : V) (H : Hp) (Q : VK) : Prop := ∃ a C dx fs v, x = .ref a ∧ H a = some (.ins C dx fs) ∧ Cls K C ∧ NoAttr K C f ∧ fs.lookup f = some v ∧ Q v H
theorem r_fld (k : ta σ H fun x H1 => kFld K f x H1 Q) : tFld K ta f σ H Q := k
theorem r_kfld {a dx : Addr} {fs : List (Str × V)} (h : H a = some (.ins C dx fs)) (c : Cls K C) (n : NoAttr K C f) (l : fs.lookup f = some v) (k : Q v H) : kFld K f (.ref a) H Q := ⟨a, C, dx, fs, v, rfl, h, c, n, l, k⟩
def kSFld (K : PySem.W.Frag) (f : Str) (x y : V) (H : Hp) (R : Hp → Prop) : Prop := ∃ a C dx fs, x = .ref a ∧ H a = some (.ins C dx fs) ∧ Cls K C ∧ NoAttr K C f ∧ fs.length < 1000 ∧ R (upd H a (.ins C dx (putF f y fs)))
theorem r_sfld (k : tv σ H fun y H1 => ta σ H1 fun x H2 => kSFld K f x y H2 fun H3 => D.nx σ H3) : sFld K ta tv f D σ H := k
theorem r_ksfld {a dx : Addr} {fs : List (Str × V)} {R : Hp → Prop} (h : H a = some (.ins C dx fs)) (c : Cls K C) (n : NoAttr K C f) (l : fs.length < 1000) (k : R (upd H a (.ins C dx (putF f y fs)))) : kSFld K f (.ref a) y H R := ⟨a, C, dx, fs, rfl, h, c, n, l, k⟩
def kTup (xs : List V) (H : Hp) (Q : VK) : Prop := xs.length ≤ sizeLine ∧ ∀ p, H p = none → Q (.ref p) (upd H p (.tup xs))
def kLst (xs : List V) (H : Hp) (Q : VK) : Prop := xs.length ≤ sizeLine ∧ ∀ p, H p = none → Q (.ref p) (upd H p (.lst xs))
theorem r_tup (k : tr σ H fun xs H1 => kTup xs H1 Q) : tTup tr σ H Q := k
theorem r_lst (k : tr σ H fun xs H1 => kLst xs H1 Q) : tLst tr σ H Q := k
theorem few {n : Nat} (h : n ≤ 100) : n ≤ sizeLine := by rw [sizeLine_eq]; omega
theorem few1 {n : Nat} (h : n ≤ 100000) : n < sizeLine := by rw [sizeLine_eq]; omega
theorem few2 {n : Nat} (h : n ≤ 100000) : n ≤ sizeLine := by rw [sizeLine_eq]; omega
theorem r_ktup {xs : List V} (l : xs.length ≤ 100) (k : ∀ p, H p = none → Q (.ref p) (upd H p (.tup xs))) : kTup xs H Q := ⟨few l, k⟩
theorem r_klst {xs : List V} (l : xs.length ≤ 100) (k : ∀ p, H p = none → Q (.ref p) (upd H p (.lst xs))) : kLst xs H Q := ⟨few l, k⟩
theorem r_sl {q : V → Option Int → Option Int → Hp → VK → Prop} {tl th : TO} (k : te σ H fun x H1 => tl σ H1 fun l H2 => th σ H2 fun u H3 => q x l u H3 Q) : tSl q te tl th σ H Q := k
theorem r_nopart {R : Option Int → Hp → Prop} (k : R none H) : tNoPart σ H R := k
def kI (x : V) (R : Int → Prop) : Prop := ∃ i, x = .int i ∧ R i
theorem r_part {R : Option Int → Hp → Prop} (k : te σ H fun x H1 => kI x fun i => R (some i) H1) : tPart te σ H R := k
theorem r_kI {z : Int} {R : Int → Prop} (h : R z) : kI (.int z) R := ⟨z, rfl, h⟩
def kBM (K : PySem.W.Frag) (T : String) (q : V → List V → Hp → VK → Prop) (tr : TA) (σ : St) (x : V) (H : Hp) (Q : VK) : Prop := tyV K T x H ∧ tr σ H fun xs H2 => q x xs H2 Q
theorem r_bm {T : String} {q : V → List V → Hp → VK → Prop} (k : ta σ H fun x H1 => kBM K T q tr σ x H1 Q) : tBM K T q ta tr σ H Q := k
theorem r_bm0 {T : String} {q : V → List V → Hp → VK → Prop} (k : ta σ H fun x H1 => kBM K T q tNil σ x H1 Q) : tBM0 K T q ta σ H Q := k
theorem r_kbm_l {q : V → List V → Hp → VK → Prop} {l : Addr} {xs : List V} (h : H l = some (.lst xs)) (k : tr σ H fun xs H2 => q (.ref l) xs H2 Q) : kBM K "list" q tr σ (.ref l) H Q := ⟨.inl ⟨rfl, xs, SqL.of h⟩, k⟩
theorem r_revL {l : Addr} {xs : List V} (k : te σ H fun x H1 => x = .ref l ∧ H1 l = some (.lst xs) ∧ ∀ p, H1 p = none → Q (.ref p) (upd H1 p (.lst xs.reverse))) (mono : ∀ S S' : VK, (∀ x H, S x H → S' x H) → te σ H S → te σ H S') : tRevL K te σ H Q :=
  mono _ _ (fun x H1 h => ⟨l, xs, h.1, SqL.of h.2.1, h.2.2⟩) k
def kRev (K : PySem.W.Frag) (x : V) (H : Hp) (Q : VK) : Prop := ∃ a xs, x = .ref a ∧ SqL K H a xs ∧ ∀ p, H p = none → Q (.ref p) (upd H p (.lst xs.reverse))
theorem r_rev (k : te σ H fun x H1 => kRev K x H1 Q) : tRevL K te σ H Q := k
theorem r_krev {l : Addr} {xs : List V} (h : H l = some (.lst xs)) (k : ∀ p, H p = none → Q (.ref p) (upd H p (.lst xs.reverse))) : kRev K (.ref l) H Q := ⟨l, xs, rfl, SqL.of h, k⟩
def kNotV (x : V) (R : Bool → Prop) : Prop := kB x R
theorem r_notV (k : ta σ H fun x H1 => kB x fun b => Q (.bl (!b)) H1) : tNotV ta σ H Q := k
theorem r_andV (k : ta σ H fun x H1 => kB x fun b => if b = true then te σ H1 Q else Q (.bl false) H1) : tAndV ta te σ H Q := k
theorem r_orV (k : ta σ H fun x H1 => kB x fun b => if b = true then Q (.bl true) H1 else te σ H1 Q) : tOrV ta te σ H Q := k
theorem r_chain {r' : R2} {tc : TE} (k : ta σ H fun x H1 => te σ H1 fun y H2 => r x y H2 fun z H3 => kB z fun b => if b = true then tc σ H3 fun w' H4 => r' y w' H4 Q else Q (.bl false) H3) : tChain r r' ta te tc σ H Q := k
theorem r_gsub {tsv : TSet} {R : St → Hp → Prop} (k : ta σ H fun o H1 => te σ H1 fun i H2 => tsv o i v H2 fun H3 => R σ H3) : gSub ta te tsv v σ H R := k
/-! ### operators by values -/
variable {a b : Int} {l l' p q : Addr} {xs zs : List V}
theorem v_add (k : Q (.int (a + b)) H) : bAdd K (.int a) (.int b) H Q := .inl ⟨a, b, rfl, rfl, k⟩
theorem v_addL (h1 : H l = some (.lst xs)) (h2 : H l' = some (.lst zs)) (n : xs.length + zs.length ≤ sizeLine) (k : ∀ p, H p = none → Q (.ref p) (upd H p (.lst (xs ++ zs)))) : bAdd K (.ref l) (.ref l') H Q := .inr (.inl ⟨l, l', xs, zs, rfl, rfl, h1, h2, n, k⟩)
theorem v_addS {s z : Str} (n : s.length + z.length ≤ sizeLine) (k : Q (.str (s ++ z)) H) : bAdd K (.str s) (.str z) H Q := .inr (.inr (.inl ⟨s, z, rfl, rfl, n, k⟩))
theorem v_addT (h1 : H l = some (.tup xs)) (h2 : H l' = some (.tup zs)) (n : xs.length + zs.length ≤ sizeLine) (k : ∀ p H', H' p = some (.tup (xs ++ zs)) → Keep Nil H H' → Q (.ref p) H') : bAdd K (.ref l) (.ref l') H Q := by
  refine .inr (.inr (.inr ⟨l, l', xs, zs, rfl, rfl, SqT.of h1, SqT.of h2, n, fun e => ?_, fun _ e => ?_, fun _ _ p hp => k p _ upd_same (Keep.alloc hp)⟩))
  · subst e; exact k l' H (by simpa using h2) Keep.refl
  · subst e; exact k l H (by simpa using h1) Keep.refl
theorem v_sub (k : Q (.int (a - b)) H) : bSub (.int a) (.int b) H Q := ⟨a, b, rfl, rfl, k⟩
theorem v_mul (n : -(2 ^ 64) < a ∧ a < 2 ^ 64) (k : Q (.int (a * b)) H) : bMul (.int a) (.int b) H Q := .inl ⟨a, b, rfl, rfl, .inl n, k⟩
theorem v_mulR (n : -(2 ^ 64) < b ∧ b < 2 ^ 64) (k : Q (.int (a * b)) H) : bMul (.int a) (.int b) H Q := .inl ⟨a, b, rfl, rfl, .inr n, k⟩
theorem v_mulW (n : CMulW a b) (k : Q (.int (a * b)) H) : bMul (.int a) (.int b) H Q := .inr (.inl ⟨a, b, rfl, rfl, n, k⟩)
theorem v_mulL (h : H l = some (.lst xs)) (n : -(2 ^ 63) ≤ a ∧ a < 2 ^ 63 ∧ xs.length * a.toNat ≤ sizeLine) (k : ∀ p, H p = none → Q (.ref p) (upd H p (.lst (List.replicate a.toNat xs).flatten))) : bMul (.ref l) (.int a) H Q :=
  .inr (.inr ⟨l, a, xs, rfl, rfl, h, n.1, n.2.1, n.2.2, k⟩)
theorem v_mod (n : 0 < b) (k : Q (.int (a % b)) H) : bMod (.int a) (.int b) H Q := ⟨a, b, rfl, rfl, n, k⟩
theorem v_div (n : 0 < b ∧ b < 1073741824) (k : Q (.int (a / b)) H) : bDiv (.int a) (.int b) H Q := .inl ⟨a, b, rfl, rfl, n, k⟩
theorem v_divW (n : CDivW a b) (k : Q (.int (a / b)) H) : bDiv (.int a) (.int b) H Q := .inr ⟨a, b, rfl, rfl, n, k⟩
theorem v_pow (n : CPow a b) (k : Q (.int (a ^ b.toNat)) H) : bPow (.int a) (.int b) H Q := ⟨a, b, rfl, rfl, n, k⟩
theorem v_eq (k : Q (.bl (decide (a = b))) H) : cEq K (.int a) (.int b) H Q := .inl ⟨rfl, by
  have e : decide (V.int a = V.int b) = decide (a = b) := by
    by_cases h : a = b
    · subst h; simp
    · rw [decide_eq_false h, decide_eq_false (fun z => h (V.int.inj z))]
  rw [e]; exact k⟩
theorem v_eqS {s z : Str} (k : Q (.bl (decide (s = z))) H) : cEq K (.str s) (.str z) H Q := .inl ⟨rfl, by
  have e : decide (V.str s = V.str z) = decide (s = z) := by
    by_cases h : s = z
    · subst h; simp
    · rw [decide_eq_false h, decide_eq_false (fun z => h (V.str.inj z))]
  rw [e]; exact k⟩
theorem v_ne (k : Q (.bl (!decide (a = b))) H) : cNe K (.int a) (.int b) H Q := .inl ⟨rfl, by
  have e : decide (V.int a = V.int b) = decide (a = b) := by
    by_cases h : a = b
    · subst h; simp
    · rw [decide_eq_false h, decide_eq_false (fun z => h (V.int.inj z))]
  rw [e]; exact k⟩
theorem v_neS {s z : Str} (k : Q (.bl (!decide (s = z))) H) : cNe K (.str s) (.str z) H Q := .inl ⟨rfl, by
  have e : decide (V.str s = V.str z) = decide (s = z) := by
    by_cases h : s = z
    · subst h; simp
    · rw [decide_eq_false h, decide_eq_false (fun z => h (V.str.inj z))]
  rw [e]; exact k⟩
theorem v_eqD {d e : PyData} (h1 : Dp K H x d) (h2 : Dp K H y e) (s1 : SeqAt.shaped d = true) (s2 : SeqAt.shaped e = true) (k : Q (.bl (PyData.eqv d e)) H) : cEq K x y H Q := .inr ⟨d, e, h1, h2, s1, s2, k⟩
theorem v_neD {d e : PyData} (h1 : Dp K H x d) (h2 : Dp K H y e) (s1 : SeqAt.shaped d = true) (s2 : SeqAt.shaped e = true) (k : Q (.bl (!PyData.eqv d e)) H) : cNe K x y H Q := .inr ⟨d, e, h1, h2, s1, s2, k⟩
theorem v_lt (k : Q (.bl (decide (a < b))) H) : cLt K (.int a) (.int b) H Q := .inl ⟨a, b, rfl, rfl, k⟩
theorem v_le (k : Q (.bl (decide (a ≤ b))) H) : cLe (.int a) (.int b) H Q := ⟨a, b, rfl, rfl, k⟩
theorem v_gt (k : Q (.bl (decide (b < a))) H) : cGt (.int a) (.int b) H Q := ⟨a, b, rfl, rfl, k⟩
theorem v_ge (k : Q (.bl (decide (b ≤ a))) H) : cGe (.int a) (.int b) H Q := ⟨a, b, rfl, rfl, k⟩
theorem v_isN (k : Q (.bl (decide (x = .non))) H) : cIs x .non H Q := .inl ⟨rfl, k⟩
theorem v_notN (k : Q (.bl (!decide (x = .non))) H) : cIsNot x .non H Q := .inl ⟨rfl, k⟩
theorem v_isB {c d : Bool} (k : Q (.bl (decide (c = d))) H) : cIs (.bl c) (.bl d) H Q := .inr ⟨c, d, rfl, rfl, k⟩
theorem v_notB {c d : Bool} (k : Q (.bl (!decide (c = d))) H) : cIsNot (.bl c) (.bl d) H Q := .inr ⟨c, d, rfl, rfl, k⟩
theorem v_ixL (h : H l = some (.lst xs)) (n : atI xs a = some v) (k : Q v H) : bIx P w K (.ref l) (.int a) H Q := .inl ⟨l, xs, a, v, rfl, rfl, SqL.of h, n, k⟩
theorem v_ixK (h : SqL K H l xs) (n : atI xs a = some v) (k : Q v H) : bIx P w K (.ref l) (.int a) H Q := .inl ⟨l, xs, a, v, rfl, rfl, h, n, k⟩
theorem v_ixT (h : H l = some (.tup xs)) (n : atI xs a = some v) (k : Q v H) : bIx P w K (.ref l) (.int a) H Q := .inr (.inl ⟨l, xs, a, v, rfl, rfl, SqT.of h, n, k⟩)
theorem v_setL {R : Hp → Prop} {jj : Nat} (h : H l = some (.lst xs)) (n : ixN xs.length a = some jj) (k : R (upd H l (.lst (xs.set jj v)))) : bSet P w (.ref l) (.int a) v H R := .inl ⟨l, xs, a, jj, rfl, rfl, h, n, k⟩
theorem v_lenL (h : H l = some (.lst xs)) (k : Q (.int xs.length) H) : kLen K [.ref l] H Q := .inl ⟨.ref l, xs.length, rfl, .inl ⟨xs, SqL.of h, rfl⟩, k⟩
theorem v_lenK (h : SqL K H l xs) (k : Q (.int xs.length) H) : kLen K [.ref l] H Q := .inl ⟨.ref l, xs.length, rfl, .inl ⟨xs, h, rfl⟩, k⟩
theorem v_lenT (h : H l = some (.tup xs)) (k : Q (.int xs.length) H) : kLen K [.ref l] H Q := .inl ⟨.ref l, xs.length, rfl, .inr ⟨xs, SqT.of h, rfl⟩, k⟩
theorem v_int (k : Q (.int a) H) : kInt [.int a] H Q := .inl ⟨a, rfl, k⟩
theorem v_intB {c : Bool} (k : Q (.int (if c then 1 else 0)) H) : kInt [.bl c] H Q := .inr ⟨c, rfl, k⟩
theorem v_max (k : Q (.int (if b > a then b else a)) H) : kMax K [.int a, .int b] H Q := .inl ⟨a, b, rfl, k⟩
theorem v_min (k : Q (.int (if b < a then b else a)) H) : kMin K [.int a, .int b] H Q := .inl ⟨a, b, rfl, k⟩
theorem v_maxL {ns : List Int} (h : H l = some (.lst (ns.map V.int))) (n : 0 < ns.length) (k : ∀ m, m ∈ ns → (∀ y, y ∈ ns → y ≤ m) → Q (.int m) H) : kMax K [.ref l] H Q := .inr ⟨l, ns, rfl, SqL.of h, n, k⟩
theorem v_abs (k : Q (.int (if a < 0 then -a else a)) H) : kAbs [.int a] H Q := ⟨a, rfl, k⟩
theorem v_listL (h : H l = some (.lst xs)) (k : ∀ p, H p = none → Q (.ref p) (upd H p (.lst xs))) : kList K [.ref l] H Q := .inl ⟨l, xs, rfl, .inl (SqL.of h), k⟩
theorem v_listT (h : H l = some (.tup xs)) (k : ∀ p, H p = none → Q (.ref p) (upd H p (.lst xs))) : kList K [.ref l] H Q := .inl ⟨l, xs, rfl, .inr (SqT.of h), k⟩
theorem v_tupleL (h : H l = some (.lst xs)) (k : ∀ p, H p = none → Q (.ref p) (upd H p (.tup xs))) : kTuple K [.ref l] H Q := ⟨l, xs, rfl, .inl ⟨SqL.of h, k⟩⟩
theorem v_sortedL {ns : List Int} (h : H l = some (.lst (ns.map V.int))) (k : ∀ (ns' : List Int) (p : Addr), ns'.Perm ns → ns'.Pairwise (· ≤ ·) → H p = none → Q (.ref p) (upd H p (.lst (ns'.map V.int)))) : kSorted K w [.ref l] H Q := .inl ⟨l, ns, rfl, SqL.of h, k⟩
theorem v_sortedS {S : Int → Bool} {n : Nat} (h : H l = some (SetO w l S n)) (k : ∀ (ns : List Int) (p : Addr), ns.Pairwise (· < ·) → (∀ z : Int, z ∈ ns ↔ S z = true) → ns.length = n → H p = none → Q (.ref p) (upd H p (.lst (ns.map V.int)))) : kSorted K w [.ref l] H Q := .inr (.inl ⟨l, S, n, rfl, h, k⟩)
theorem v_sortedT {ns : List Int} (h : H l = some (.tup (ns.map V.int))) (k : ∀ (ns' : List Int) (p : Addr), ns'.Perm ns → ns'.Pairwise (· ≤ ·) → H p = none → Q (.ref p) (upd H p (.lst (ns'.map V.int)))) : kSorted K w [.ref l] H Q := .inr (.inr (.inl ⟨l, ns, rfl, SqT.of h, k⟩))
theorem v_sortedD {kvs : List (L2.Key × V)} {ks : List Int} (h : H l = some (.dK kvs)) (e : kvs.map (·.1) = ks.map Sum.inl) (k : ∀ (ns' : List Int) (p : Addr), ns'.Perm ks → ns'.Pairwise (· ≤ ·) → H p = none → Q (.ref p) (upd H p (.lst (ns'.map V.int)))) : kSorted K w [.ref l] H Q := .inr (.inr (.inr ⟨l, kvs, ks, rfl, h, e, k⟩))
theorem v_set {ns : List Int} (h : H l = some (.lst (ns.map V.int))) (n : ns.length ≤ 4000) (k : ∀ (p : Addr) (c : Nat), H p = none → c ≤ ns.length → Q (.ref p) (upd H p (SetO w p (fun j => decide (j ∈ ns)) c))) : uSetI K w [.ref l] H Q := ⟨l, ns, rfl, SqL.of h, n, k⟩
theorem v_append (h : H l = some (.lst xs)) (n : xs.length < sizeLine) (k : Q .non (upd H l (.lst (xs ++ [v])))) : rAppend (.ref l) [v] H Q := ⟨l, xs, v, rfl, rfl, h, n, k⟩
theorem v_clear (h : H l = some (.lst xs)) (k : Q .non (upd H l (.lst []))) : rClear (.ref l) [] H Q := ⟨l, xs, rfl, rfl, h, k⟩
theorem v_insert (h : H l = some (.lst xs)) (n : xs.length < sizeLine) (z : 0 ≤ a ∧ a < 2 ^ 63) (k : Q .non (upd H l (.lst (xs.take a.toNat ++ [v] ++ xs.drop a.toNat)))) : kInsert (.ref l) [.int a, v] H Q := ⟨l, xs, a, v, rfl, rfl, h, n, z.1, z.2, k⟩
theorem v_slL {lo hi : Option Int} (h : H l = some (.lst xs)) (k : ∀ p, H p = none → Q (.ref p) (upd H p (.lst (cutV xs lo hi)))) : bSl K (.ref l) lo hi H Q := .inl ⟨l, xs, rfl, SqL.of h, k⟩
theorem v_isi {t u : Value} {c : V} {b : Bool} (c1 : ClsV c u) (c2 : TyX K H x t) (e : PySem.W.kitOne K t u = some b) (k : Q (.bl b) H) : rIsi K [x, c] H Q := ⟨x, c, t, u, b, rfl, c1, c2, e, k⟩
theorem v_isiI {n : String} {b : Bool} (e : kitB "int" n = some b) (k : Q (.bl b) H) : rIsi K [.int a, .ty n] H Q := v_isi (.ty n) (.base (.int _)) (kit_ty e) k
theorem v_isiB {n : String} {c b : Bool} (e : kitB "bool" n = some b) (k : Q (.bl b) H) : rIsi K [.bl c, .ty n] H Q := v_isi (.ty n) (.base (.bl _)) (kit_ty e) k
theorem v_isiL {n : String} {b : Bool} (h : H l = some (.lst xs)) (e : kitB "list" n = some b) (k : Q (.bl b) H) : rIsi K [.ref l, .ty n] H Q := v_isi (.ty n) (.base (.lst h)) (kit_ty e) k
theorem v_isiT {n : String} {b : Bool} (h : H l = some (.tup xs)) (e : kitB "tuple" n = some b) (k : Q (.bl b) H) : rIsi K [.ref l, .ty n] H Q := v_isi (.ty n) (.base (.tup h)) (kit_ty e) k
theorem v_isiS {n : String} {s : Str} {b : Bool} (e : kitB "str" n = some b) (k : Q (.bl b) H) : rIsi K [.str s, .ty n] H Q := v_isi (.ty n) (.base (.str _)) (kit_ty e) k
theorem kit_int_int : kitB "int" "int" = some true := by decide +kernel
theorem kit_int_bool : kitB "int" "bool" = some false := by decide +kernel
theorem kit_int_list : kitB "int" "list" = some false := by decide +kernel
theorem kit_int_tuple : kitB "int" "tuple" = some false := by decide +kernel
theorem kit_int_str : kitB "int" "str" = some false := by decide +kernel
theorem kit_bool_int : kitB "bool" "int" = some true := by decide +kernel
theorem kit_bool_bool : kitB "bool" "bool" = some true := by decide +kernel
theorem kit_bool_list : kitB "bool" "list" = some false := by decide +kernel
theorem kit_bool_tuple : kitB "bool" "tuple" = some false := by decide +kernel
theorem kit_bool_str : kitB "bool" "str" = some false := by decide +kernel
theorem kit_list_int : kitB "list" "int" = some false := by decide +kernel
theorem kit_list_bool : kitB "list" "bool" = some false := by decide +kernel
theorem kit_list_list : kitB "list" "list" = some true := by decide +kernel
theorem kit_list_tuple : kitB "list" "tuple" = some false := by decide +kernel
theorem kit_list_str : kitB "list" "str" = some false := by decide +kernel
theorem kit_tuple_int : kitB "tuple" "int" = some false := by decide +kernel
theorem kit_tuple_bool : kitB "tuple" "bool" = some false := by decide +kernel
theorem kit_tuple_list : kitB "tuple" "list" = some false := by decide +kernel
theorem kit_tuple_tuple : kitB "tuple" "tuple" = some true := by decide +kernel
theorem kit_tuple_str : kitB "tuple" "str" = some false := by decide +kernel
theorem kit_str_int : kitB "str" "int" = some false := by decide +kernel
theorem kit_str_bool : kitB "str" "bool" = some false := by decide +kernel
theorem kit_str_list : kitB "str" "list" = some false := by decide +kernel
theorem kit_str_tuple : kitB "str" "tuple" = some false := by decide +kernel
theorem kit_str_str : kitB "str" "str" = some true := by decide +kernel
theorem kit_NoneType_int : kitB "NoneType" "int" = some false := by decide +kernel
theorem kit_NoneType_bool : kitB "NoneType" "bool" = some false := by decide +kernel
theorem kit_NoneType_list : kitB "NoneType" "list" = some false := by decide +kernel
theorem kit_NoneType_tuple : kitB "NoneType" "tuple" = some false := by decide +kernel
theorem kit_NoneType_str : kitB "NoneType" "str" = some false := by decide +kernel
theorem kit_dict_int : kitB "dict" "int" = some false := by decide +kernel
theorem kit_dict_bool : kitB "dict" "bool" = some false := by decide +kernel
theorem kit_dict_list : kitB "dict" "list" = some false := by decide +kernel
theorem kit_dict_tuple : kitB "dict" "tuple" = some false := by decide +kernel
theorem kit_dict_str : kitB "dict" "str" = some false := by decide +kernel
/-! ### loops -/
def kFor (J : It) (g : TG) (tb : TS) (D : Ends) (σ : St) (H : Hp) : Prop := ∃ W : Nat → Nat → St → Hp → Prop, (∃ m, W 0 m σ H) ∧ ∀ i m σ H, W i m σ H →
  (J.stop i H ∧ D.nx σ H) ∨ (J.go i H ∧ ∃ N : St → Hp → Prop, (∀ σ' H', N σ' H' → ∃ m', m' < m ∧ W (i + 1) m' σ' H') ∧ ∀ x H', J.yld i H x H' → g x σ H' fun σ2 H2 => tb { D with nx := N, ct := N, bk := D.nx } σ2 H2)
theorem r_for {wi : TI} (k : wi σ H fun J H1 => kFor J g tb D σ H1) : tFor wi g tb D σ H := k
def kRng1 (vs : List V) (H : Hp) (R : It → Hp → Prop) : Prop := ∃ j : Int, vs = [.int j] ∧ -(2 ^ 62) ≤ j ∧ j < 2 ^ 62 ∧ R (Itr 0 j.toNat) H
theorem r_rng1 {R : It → Hp → Prop} (k : tr σ H fun vs H1 => kRng1 vs H1 R) : iRng1 tr σ H R := k
theorem r_krng1 {R : It → Hp → Prop} (n : -(2 ^ 62) ≤ a ∧ a < 2 ^ 62) (k : R (Itr 0 a.toNat) H) : kRng1 [.int a] H R := ⟨a, rfl, n.1, n.2, k⟩
theorem r_iany {R : It → Hp → Prop} (k : te σ H fun x H1 => kIter K x H1 R) : iAny K te σ H R := k
theorem r_kiterL {R : It → Hp → Prop} (h : H l = some (.lst xs)) (k : R (Itl K l) H) : kIter K (.ref l) H R := .inl ⟨l, rfl, ⟨xs, SqL.of h⟩, k⟩
theorem r_kiterT {R : It → Hp → Prop} (h : H l = some (.tup xs)) (k : R (Itt K l) H) : kIter K (.ref l) H R := .inr (.inl ⟨l, rfl, ⟨xs, SqT.of h⟩, k⟩)
def kLc (J : It) (g : TG) (tt : TT) (te : TE) (vs : List Nat) (σ : St) (H1 : Hp) (Q : VK) : Prop := ∀ D, H1 D = none → ∃ W : Nat → Nat → Hp → Prop, (∃ m, W 0 m (upd H1 D (.lst []))) ∧ ∀ i m H, W i m H →
  (J.stop i H ∧ Q (.ref D) H) ∨ (J.go i H ∧ ∃ Nx : Hp → Prop, (∀ H', Nx H' → ∃ m', m' < m ∧ W (i + 1) m' H') ∧ ∀ x H', J.yld i H x H' → g x (wipe σ vs) H' fun σ2 H2 => wipe σ2 vs = wipe σ vs ∧ tt σ2 H2 fun b H3 =>
    if b = true then te σ2 H3 fun y H4 => ∃ acc, H4 D = some (.lst acc) ∧ acc.length < sizeLine ∧ Nx (upd H4 D (.lst (acc ++ [y]))) else Nx H3)
theorem r_lc {wi : TI} {vs : List Nat} (k : wi σ H fun J H1 => kLc J g tt te vs σ H1 Q) : tLc wi g tt te vs σ H Q := k
def kRg (x : V) (H : Hp) (R : Int → Int → Hp → Prop) : Prop := ∃ n, x = .int n ∧ R 0 n H
theorem r_lstRg1 (k : te σ H fun x H1 => kRg x H1 fun c d H2 => RgOk c d ∧ ∀ q, H2 q = none → Q (.ref q) (upd H2 q (.lst (rgV c d)))) : tLstRg (tRg1 te) σ H Q := k
theorem r_krg {R : Int → Int → Hp → Prop} (k : R 0 a H) : kRg (.int a) H R := ⟨a, rfl, k⟩
theorem absF {J : It} {S : Hp → Prop} (h : S H) (k : ∀ HT, S HT → kFor J g tb D σ HT) : kFor J g tb D σ H := k H h
theorem r_yes {R : Bool → Hp → Prop} (k : R true H) : tYes σ H R := k
theorem r_seqT {n : Nat} {ts : TGs} {R : St → Hp → Prop} (h : H l = some (.tup xs)) (e : xs.length = n) (k : ts xs σ H R) : gSeq K n ts (.ref l) σ H R := .inl ⟨l, xs, rfl, SqT.of h, e, k⟩
theorem r_seqL {n : Nat} {ts : TGs} {R : St → Hp → Prop} (h : H l = some (.lst xs)) (e : xs.length = n) (k : ts xs σ H R) : gSeq K n ts (.ref l) σ H R := .inr ⟨l, xs, rfl, SqL.of h, e, k⟩
theorem r_gcons {ts : TGs} {R : St → Hp → Prop} (k : g v σ H fun σ' H' => ts xs σ' H' R) : gCons g ts (v :: xs) σ H R := ⟨v, xs, rfl, k⟩
theorem r_gnil {R : St → Hp → Prop} (k : R σ H) : gNil [] σ H R := ⟨rfl, k⟩
end
end Hm

/-! F4: a caught error held as a value behind its suite; isinstance of it. -/
namespace Hm
open PySem PySem.Spec PyProof.Rows L2
/-- an error of the class cls at a -/
def ExV (cls : Value) (a : Addr) : HO := .ext fun h => ∃ (oe : Obj) (vs : Array Value), h.get? a = some oe ∧ Zc cls none oe ∧ oe.data = .fields vs
theorem exV_ok {P : Program} {w : World} {H : Hp} {h : Heap} {a : Addr} {cls : Value} {oe : Obj} {vs : Array Value} (e : h.get? a = some oe) (z : Zc cls none oe) (d : oe.data = .fields vs) : ObjOk P w H h a (ExV cls a) :=
  ⟨⟨oe, vs, e, z, d⟩, ⟨oe, e⟩, fun _ _ ⟨o, v, q, r⟩ k => ⟨o, v, k o q, r⟩⟩
section
variable {X : Cx} {pins : List (Addr × Obj)} {σ : L2.St} {H : Hp} {s : Shared}
/-- an object of ours, not told of yet, is told of -/
theorem show_ {a : Addr} {φ : Heap → Prop} (I : Inv X pins σ H s) (ha : H a = none) (h0 : X.s_0.heap.get? a = none) (hL : X.env.locals ≠ a) (hc : ∀ x c, X.env.cells.lookup x = some c → c ≠ a) (hp : ∀ p ∈ X.pn ++ pins, p.1 ≠ a)
    (new : ObjOk X.prog X.w (upd H a (.ext φ)) s.heap a (.ext φ)) : Inv X pins σ (upd H a (.ext φ)) s := by
  have old : ∀ b o, H b = some o → upd H a (.ext φ) b = some o := fun b o e => by rw [upd_ne (ne_of_none e ha)]; exact e
  refine ⟨I.ok, I.os, I.bare, ⟨I.base.keep, I.base.slot, fun b o e n hx => ?_, I.base.there, fun b xs e => old _ _ (I.base.tups b xs e), fun b o u e => old _ _ (I.base.frzs b o u e), fun b ps e => ?_⟩, I.loc, I.cell, ?_, fun x c e => ?_, fun p hpp => ?_, fun b u e => ?_, I.len⟩
  · rw [upd_ne (fun z => by rw [z, h0] at e; cases e)]
    exact I.base.free b o e n hx
  · obtain ⟨more, q⟩ := I.base.tbls b ps e
    exact ⟨more, old _ _ q⟩
  · rw [upd_ne hL]; exact I.free
  · rw [upd_ne (hc x c e)]; exact I.freeC x c e
  · obtain ⟨q1, q2, q3⟩ := I.pin p hpp
    exact ⟨q1, by rw [upd_ne (hp p hpp)]; exact q2, q3⟩
  · by_cases hb : b = a
    · subst hb
      rw [upd_same] at e
      cases e
      exact new
    · rw [upd_ne hb] at e
      exact (I.hok b u e).stay (fun _ _ _ q => q) (fun c q => old _ _ q) fun c xs q => old _ _ q
end
/-- what a clause «except c as n» wishes, the error kept: slot i is n's -/
def wVal (K : PySem.W.Frag) (c : Value) (i : Nat) (ts : Addr → Value → TS) (Wout : WX) (D : Ends) : WX := fun cls d σ H =>
  d = none ∧ ∃ b, PySem.W.exmOne K cls c = some b ∧
    (b = true → ∀ a, H a = none → ts a cls { nx := fun σ' H' => D.nx (σ'.set i none) (upd H' a (ExV cls a)), rt := D.rt, bk := fun _ _ => False, ct := fun _ _ => False } (σ.set i (some (.ref a))) H) ∧ (b = false → Wout cls d σ H)
section
variable {X : Cx} {x n : Str} {c : Value} {i : Nat} {body suite : List Stmt} {b₀ : Stmt} {np pos pos' : Pos} {tb : WX → TS} {ts : Addr → Value → TS} {Wout : WX}
/-- try: body, except x as n: suite; what is caught stays an object that is known -/
theorem ps_try_val (hs : X.stack = X.env :: X.outer) (hf : X.env.frame = some X.env.locals) (hN : X.N.Nodup) (hi : X.N[i]? = some n) (hln : X.env.kindOf n = some .local) (hc : Names X x c) (tk : Takes X Wout) (hex : X.ex = [])
    (hb : ∀ (W : WX) (pn : List (Addr × Obj)) (xe : Value → Shared → Prop), Takes (X.tr pn xe) W → PassesOwn (model X.prog X.w) X.A X.env xe → PSs (X.tr pn xe) body (tb W))
    (hsu : ∀ (a : Addr) (oe : Obj) (cls : Value) (pn : List (Addr × Obj)), PSs (X.suite a ((a, oe) :: pn)) (b₀ :: suite) (ts a cls)) :
    PS X (.Try body [.ExceptHandler (some (.Name x np)) (some n) (b₀ :: suite) pos'] [] [] pos) (fun D σ H => tb (wVal X.K c i ts Wout D) D σ H) := by
  refine ⟨fun pins s σ H D I h => wpAny_Try_except ?_⟩
  have ok := I.ok
  have hfr : X.A.frames = some (X.env :: X.outer) := by rw [ok.frames, hs]
  have run := (hb (wVal X.K c i ts Wout D) (X.pn ++ pins) (fun e s₁ => wpAny (model X.prog X.w) X.A (noteFrame e X.env) (fun _ s₂ => wpAny (model X.prog X.w) X.A (setFlight e none)
    (fun _ s₃ => wpAny (model X.prog X.w) X.A (handleBy e X.env [.ExceptHandler (some (.Name x np)) (some n) (b₀ :: suite) pos']) (SP X pins D) X.xe s₃) X.xe s₂) X.xe s₁) ?_ PassesOwn.looking).run [] s σ H D (I.toTry _) h
  · refine wpAny_mono run (fun f s1 hsp => ?_) fun _ _ z => z
    cases f with
    | next => obtain ⟨σ', H', J', q⟩ := hsp; exact wpAny_execs_nil ⟨σ', H', J'.ofTry ok, q⟩
    | brk => obtain ⟨σ', H', J', q⟩ := hsp; exact ⟨σ', H', J'.ofTry ok, q⟩
    | cont => obtain ⟨σ', H', J', q⟩ := hsp; exact ⟨σ', H', J'.ofTry ok, q⟩
    | ret u => obtain ⟨v, σ', H', J', r, q⟩ := hsp; exact ⟨v, σ', H', J'.ofTry ok, r, q⟩
  rintro u s' ⟨a, B, sI, pins', σ', H', cls, d, rfl, J', nb, up, sky, na, os, ag, rfl, b, hb1, hyes, hno⟩
  have J : Inv X pins σ' H' sI := J'.ofTry ok
  have air : Sky B (X.env :: X.outer) a (Zc cls none) X.env.locals s'.heap := by rw [← hs]; exact sky
  show wpAny (model X.prog X.w) X.A (noteFrame (.ref a) X.env) _ _ _
  refine Sky.land Zc.steady hfr hf air fun h3 fl3 up3 => ?_
  have J3 : Inv X pins σ' H' { s' with heap := h3 } := J.landed nb fl3.1 (up.trans up3) os ag
  obtain ⟨oe3, vs3, he3, hz3, hd3⟩ := fl3.there
  have aside : a ∉ frs (X.env :: X.outer) := fun hm => by
    obtain ⟨_, o', e', hnf⟩ := fl3.2.2.1.mem hm
    rw [he3] at e'; cases e'
    exact hnf _ hd3
  have gI : sI.heap.get? a = none := by
    cases e : sI.heap.get? a with
    | none => rfl
    | some o =>
      have q := nb a o e (by show a ∉ frs X.stack; rw [hs]; exact aside)
      rw [fl3.2.1] at q; cases q
  have nL : a ≠ X.env.locals := fun z => aside (List.mem_filterMap.mpr ⟨X.env, List.mem_cons_self, by rw [hf, z]⟩)
  have nF : a ∉ X.fs := fun hm => by
    obtain ⟨e, he, q⟩ := List.mem_filterMap.mp hm
    exact aside (List.mem_filterMap.mpr ⟨e, List.mem_cons_of_mem _ he, q⟩)
  have h00 : X.s_0.heap.get? a = none := by
    cases e : X.s_0.heap.get? a with
    | none => rfl
    | some o =>
      obtain ⟨o', q⟩ := J.base.there a o e (by rw [hex]; exact List.not_mem_nil)
      rw [gI] at q; cases q
  have noCell : ∀ y k, X.env.cells.lookup y = some k → k ≠ a := fun y k e z => by
    obtain ⟨v, o, q, _⟩ := J.cell y k e
    rw [z, gI] at q; cases q
  have noPin : ∀ p ∈ X.pn ++ pins, p.1 ≠ a := fun p hp z => by
    have q := (J.pin p hp).1
    rw [z, gI] at q; cases q
  have S3 := J3.suite he3 hd3 na nL nF
  refine wpAny_handleBy_cons (codeAny_handlers_test ?_) (by intro q; cases q)
  have LT : PySem.W.Looks (model X.prog X.w) h3 (typeOf (.ref a)) cls := fun A Q E s k q => wpAny_typeOf_ref (k _ _ he3) (by rw [hz3.1]; exact q)
  have LM := PySem.W.exm_one (M := model X.prog X.w) (J3.kIn) LT hb1
  have test : ∀ {Q : Value → Shared → Prop} {E : Value → Shared → Prop}, Q c { s' with heap := h3 } → wpAny (model X.prog X.w) (X.A.mark (some (.ref a))) (eval (.Name x np) X.env) Q E { s' with heap := h3 } := fun {Q E} q => by
    obtain ⟨hg, hdbg, hm | ⟨hm, hv, hnn⟩⟩ := hc
    · exact ld_glob (X := X.suite a ((a, oe3) :: (X.pn ++ pins))) S3 hg hm q hdbg
    · exact ld_blt (X := X.suite a ((a, oe3) :: (X.pn ++ pins))) S3 hg hm hv q hnn hdbg
  refine test (LM.here ?_)
  cases b with
  | false =>
    show wpAny _ X.A (handleBy (.ref a) X.env []) _ _ _
    refine wpAny_handleBy_nil ?_
    obtain ⟨k1, k2, k3, oe, vs, T, oT, ts', he, hz, hd, h1, hr⟩ := id fl3
    unfold PySem.passOn
    refine wpAny_bind (wpAny_field he hd h1 ?_)
    rw [if_neg (show ¬ ((Value.ref T == Value.none) = true) from by simp)]
    have fin : wpAny (model X.prog X.w) X.A (setFlight (.ref a) X.env.frame) (fun _ s4 => wpAny (model X.prog X.w) X.A (throw (.ref a) : Sem Flow) (SP X pins D) X.xe s4) X.xe { s' with heap := h3 } := by
      rw [hf]
      refine HandSPX.setFlight_upZ fl3 fun h4 hh4 up4 => wpAny_throw (tk _ _ ?_)
      exact ⟨a, B, sI, pins, σ', H', cls, none, rfl, J, nb, (up.trans up3).trans up4, .inr (.inr (by rw [hs]; exact hh4)), na, os, ag, hno rfl⟩
    first
      | exact wpAny_bind (wpAny_pure (wpAny_bind fin))
      | exact wpAny_bind fin
  | true =>
    refine codeAny_handlers_suite_as (HandSPX.lands_againZ fl3 fun h4 fl4 up4 => ?_)
    have J4 : Inv X pins σ' H' { s' with heap := h4 } := J.landed nb fl4.1 ((up.trans up3).trans up4) os ag
    obtain ⟨oe4, vs4, he4, hz4, hd4⟩ := fl4.there
    have S4 := J4.suite he4 hd4 na nL nF
    refine store_ok (X := X.suite a ((a, oe4) :: (X.pn ++ pins))) (v := .ref a) S4 hN hi (.inl hln) rfl (fun s5 S5 => ?_) (.inr hln)
    refine wpAny_mono ((hsu a oe4 cls (X.pn ++ pins)).run [] s5 _ H' _ S5 (hyes rfl a na)) (fun f s6 hsp => ?_) (fun _ _ z => False.elim z)
    cases f with
    | next =>
      obtain ⟨σ6, H6, S6, q6⟩ := hsp
      obtain ⟨e6, n6, _⟩ := S6.pin (a, oe4) (List.mem_append_left _ List.mem_cons_self)
      have J6 : Inv X pins σ6 H6 s6 := S6.unsuite ok
      have J7 := show_ (φ := fun h => ∃ (oe : Obj) (vs : Array Value), h.get? a = some oe ∧ Zc cls none oe ∧ oe.data = .fields vs) J6 n6 h00 nL.symm noCell noPin (exV_ok e6 hz4 hd4)
      exact gone_ok J7 hN hi hln fun s7 J8 => ⟨_, _, J8, q6⟩
    | brk => obtain ⟨σ6, H6, S6, q6⟩ := hsp; exact q6.elim
    | cont => obtain ⟨σ6, H6, S6, q6⟩ := hsp; exact q6.elim
    | ret u =>
      obtain ⟨v6, σ6, H6, S6, r6, q6⟩ := hsp
      exact gone_ok (S6.unsuite ok) hN hi hln fun s7 J7 => ⟨_, _, _, J7, r6, q6⟩
end
/-- isinstance(e, C), e an error that is known -/
def uIsV (K : PySem.W.Frag) : List V → Hp → VK → Prop := fun xs H Q => ∃ (a D : Addr) (c : V) (u : Value) (b : Bool), xs = [.ref a, c] ∧ H a = some (ExV (.ref D) a) ∧ ExcC K D ∧ ClsV c u ∧ PySem.W.kitOne K (.ref D) u = some b ∧ Q (.bl b) H
theorem k_isV {X : Cx} : CallR X (.builtin "isinstance") (uIsV X.K) := by
  intro pins s σ H xs us Q I r h
  obtain ⟨a, D, c, u, b, rfl, ha, C, hc, e, q⟩ := h
  obtain ⟨u1, u2, rfl, r1, r2⟩ := vals2 r
  have e2 := hc.eq r2
  subst e2
  cases r1
  obtain ⟨⟨oe, vs, hg, hz, hv⟩, _⟩ := I.hok a _ ha
  have J : PySem.W.InstAt s.heap a oe D none := by
    obtain ⟨oc, od, oda, osl⟩ := oe
    obtain ⟨h1, h2⟩ := hz
    dsimp only at h1 h2 hv
    subst h1 h2 hv
    exact ⟨hg, rfl, rfl, trivial⟩
  exact PySem.W.kia_one (PySem.W.handS_kitx_exc C.hg C.hk C.hs C.hd C.ha C.hn C.ht C.hm) I.kIn J e (fun z => nomatch z) fun tk => ⟨.bl b, H, I.tok tk, rfl, q⟩
/-! ### defs that raise, called within a try -/
section
variable {X : Cx} {k j : Nat} {C : Addr} {x m : Str} {sp : Sp} {p pos apos : Pos} {e o : Expr} {es : List Expr} {ta : TE} {t : TA} {W : WX}
def tMethS (C : Addr) (m : Str) (sp : Sp) (W : WX) (ta : TE) (t : TA) : TE := fun σ H Q => tMeth C m sp [] (fun cls d H => W cls d σ H) ta t σ H Q
theorem r_methS {σ : L2.St} {H : Hp} {Q : VK} (h : tMeth C m sp [] (fun cls d H => W cls d σ H) ta t σ H Q) : tMethS C m sp W ta t σ H Q := h
def tCallW (sp : Sp) (W : WX) (t : TA) : TE := fun σ H Q => tCall sp [] (fun cls d H => W cls d σ H) t σ H Q
theorem r_callW {σ : L2.St} {H : Hp} {Q : VK} (h : tCall sp [] (fun cls d H => W cls d σ H) t σ H Q) : tCallW sp W t σ H Q := h
theorem e_callS (c : Cal X.prog X.w X.K X.mg X.base (L2.CX X.prog X.w) k x sp) (hr : Room j X.A) (hk : k ≤ j) (tk : Takes X W) (hg : Gl X x) (ha : PA X (e :: es) t)
    (hdb : (x == ("__debug__" : Str)) = false := by decide) (he : starEach (e :: es) X.env = (false, eval e X.env) :: starEach es X.env := by rfl) (hpl : (backTo pos (starEach es X.env)).any (·.1) = false := by rfl) :
    PE X (.Call (.Name x p) (e :: es) [] pos) (tCallW sp W t) := by
  obtain ⟨f, fd, ps, F, hm, kp, b⟩ := c.ex
  refine ⟨fun pins s σ H Q I h => ?_⟩
  refine (pe_callS (E := WE W) F (hr.mono hk) hg hm kp b (fun σ => passAt tk σ) ha hdb he hpl).run pins s σ H Q I ?_
  have h' : t σ H fun vs H1 => sp (vs ++ []) H1 Q (fun cls d H => W cls d σ H) := h
  show t σ H fun vs H1 => sp vs H1 Q (fun cls d H => W cls d σ H)
  simpa only [List.append_nil] using h'
theorem e_methS {pl : Sem Bool} (c : Met X.prog X.w X.K X.mg X.base (L2.CX X.prog X.w) k C m sp) (hr : Room j X.A) (hk : k ≤ j) (tk : Takes X W) (he : PE X o ta) (ha : PA X (e :: es) t)
    (h1 : starEach (e :: es) X.env = (false, eval e X.env) :: starEach es X.env := by rfl) (h2 : (backTo pos (starEach es X.env)).any (·.1) = false := by rfl)
    (h3 : eval (.Call (.Attribute o m apos) (e :: es) [] pos) X.env = (do let ov ← eval o X.env; standAt apos.atName; let (f, first) ← holding [ov] (getMethod ov m pl)
                                                                          callWith pos f first (backTo pos (starEach (e :: es) X.env)) (backToKw pos (keywordEach [] X.env))) := by rfl) :
    PE X (.Call (.Attribute o m apos) (e :: es) [] pos) (tMethS C m sp W ta t) := by
  obtain ⟨f, fd, ps, hc, hm, F, b⟩ := c.ex
  refine ⟨fun pins s σ H Q I h => PySem.W.methodCall_KW (pl := pl) (thn (he.run pins s σ H _ I h) fun u s1 ⟨y, H1, I1, rx, a, dx, fs, ey, ea, l, q⟩ => ?_) h3⟩
  subst ey
  obtain rfl : u = Value.ref a := rx
  refine getmeth_ok I1 ea hc hm l (PySem.W.callWith_K (first := [.ref a]) (h₀ := X.base) I.ok.mod.kin hm.kp (thn (ha.run pos pins s1 σ H1 _ I1 q) fun us s2 ⟨vs, H2, I2, r, q2⟩ => ⟨I2.kIn, ?_⟩) h1 h2)
  refine run_fnS (E := WE W) (us := .ref a :: us) (vs := .ref a :: vs) F (hr.mono hk) b (fun _ _ _ e s' I c => tk e s' (XE.of_call I (fun _ _ _ h => h) c)) I2 (.cons rfl r) ?_
  have q' : sp (.ref a :: vs ++ []) H2 Q (fun cls d H => W cls d σ H) := q2
  simpa only [List.append_nil] using q'
end
/-! ### raise -/
def tRaiseC (C : Addr) (W : WX) : TS := fun _ σ H => W (.ref C) none σ H
def tRaiseE (C : Addr) (W : WX) (te : TE) : TS := fun _ σ H => te σ H fun _ H1 => W (.ref C) none σ H1
theorem r_raiseC {C : Addr} {W : WX} {D : Ends} {σ : L2.St} {H : Hp} (h : W (.ref C) none σ H) : tRaiseC C W D σ H := h
theorem r_raiseE {C : Addr} {W : WX} {te : TE} {D : Ends} {σ : L2.St} {H : Hp} (h : te σ H fun _ H1 => W (.ref C) none σ H1) : tRaiseE C W te D σ H := h
/-- what stands of a refusal's class -/
structure XCl (K : PySem.W.Frag) (mg : Str → Option Value) (x : Str) (C : Addr) : Prop where
  g : mg x = some (.ref C)
  x : PySem.W.excIn K C [.type "ValueError", .type "Exception", .type "BaseException", .type "object"] "ValueError.__new__" = true
  k : PySem.W.keepIn K (.ref C) = true
  b : PySem.W.subIn K (.ref C) (.type "BaseException") = some true
  t : PySem.W.typeIn K (.ref C) = some (.type "type")
section
variable {X : Cx} {C : Addr} {x m : Str} {p p2 pos pos' : Pos} {jj : Nat} {e : Expr} {ta : TE} {W : WX}
theorem ps_raiseC (hc : X.calm = true) (tk : Takes X W) (c : XCl X.K X.mg x C) (hg : Gl X x) (hdb : (x == ("__debug__" : Str)) = false := by decide) : PS X (.Raise (some (.Call (.Name x p) [.Constant (.str m) jj p2] [] pos)) none pos') (tRaiseC C W) :=
  ps_raise hc tk (pmk_own PySem.F.excBase_ValueError c.x c.g c.k (raises_own c.b c.t) hg hdb)
theorem ps_raiseE (hc : X.calm = true) (tk : Takes X W) (c : XCl X.K X.mg x C) (hg : Gl X x) (he : PE X e ta) (hs : starEach [e] X.env = (false, eval e X.env) :: starEach [] X.env := by rfl) (hdb : (x == ("__debug__" : Str)) = false := by decide) :
    PS X (.Raise (some (.Call (.Name x p) [e] [] pos)) none pos') (tRaiseE C W ta) :=
  ps_raise hc tk (SkE.pmk_own1 PySem.F.excBase_ValueError c.x c.g c.k (raises_own c.b c.t) hg he hs hdb)
end
/-! ### try -/
def tTryV (K : PySem.W.Frag) (c : Value) (i : Nat) (ts : TS) (tb : WX → TS) : TS := fun D σ H => tb (wVal K c i (fun _ _ => ts) (fun _ _ _ _ => False) D) D σ H
theorem r_tryV {K : PySem.W.Frag} {c : Value} {i : Nat} {ts : TS} {tb : WX → TS} {D : Ends} {σ : L2.St} {H : Hp} (h : tb (wVal K c i (fun _ _ => ts) (fun _ _ _ _ => False) D) D σ H) : tTryV K c i ts tb D σ H := h
theorem w_val {K : PySem.W.Frag} {c cls : Value} {i : Nat} {ts : TS} {D : Ends} {σ : L2.St} {H : Hp} (hm : PySem.W.exmOne K cls c = some true)
    (h : ∀ a, H a = none → ts { nx := fun σ' H' => D.nx (σ'.set i none) (upd H' a (ExV cls a)), rt := D.rt, bk := fun _ _ => False, ct := fun _ _ => False } (σ.set i (some (.ref a))) H) : wVal K c i (fun _ _ => ts) (fun _ _ _ _ => False) D cls none σ H :=
  ⟨rfl, true, hm, fun _ a ha => h a ha, fun z => nomatch z⟩
section
variable {X : Cx} {x n : Str} {c : Value} {i : Nat} {body suite : List Stmt} {b₀ : Stmt} {np pos pos' : Pos} {tb : WX → TS} {ts : TS}
theorem ps_tryV (hs : X.stack = X.env :: X.outer) (hf : X.env.frame = some X.env.locals) (hN : X.N.Nodup) (hi : X.N[i]? = some n) (hln : X.env.kindOf n = some .local) (hc : Names X x c) (hex : X.ex = [])
    (hb : ∀ (W : WX) (pn : List (Addr × Obj)) (xe : Value → Shared → Prop), Takes (X.tr pn xe) W → PassesOwn (model X.prog X.w) X.A X.env xe → PSs (X.tr pn xe) body (tb W))
    (hsu : ∀ (a : Addr) (oe : Obj) (pn : List (Addr × Obj)), PSs (X.suite a ((a, oe) :: pn)) (b₀ :: suite) ts) :
    PS X (.Try body [.ExceptHandler (some (.Name x np)) (some n) (b₀ :: suite) pos'] [] [] pos) (tTryV X.K c i ts tb) :=
  ps_try_val (tb := tb) (ts := fun _ _ => ts) hs hf hN hi hln hc takes0 hex (fun W pn xe tk po => hb W pn xe tk po) fun a oe _ pn => hsu a oe pn
end
theorem v_isiN {K : PySem.W.Frag} {H : Hp} {Q : VK} {n : String} {b : Bool} (e : kitB "NoneType" n = some b) (k : Q (.bl b) H) : rIsi K [.non, .ty n] H Q := v_isi (.ty n) (.base .non) (kit_ty e) k
theorem v_isV {K : PySem.W.Frag} {a D : Addr} {c : V} {u : Value} {b : Bool} {H : Hp} {Q : VK} (h : H a = some (ExV (.ref D) a)) (d : ExcC K D) (hc : ClsV c u) (e : PySem.W.kitOne K (.ref D) u = some b) (q : Q (.bl b) H) : uIsV K [.ref a, c] H Q := ⟨a, D, c, u, b, rfl, h, d, hc, e, q⟩
end Hm

namespace Hm
open PySem L2
/-! F3m: the reading's steps. kaf_suf: one step; kaf_pre: what stands at an address; tlg_ne: two addresses differ. -/
local macro_rules | `(tactic| tlg_ne) => `(tactic| first
  | with_reducible assumption
  | with_reducible exact Ne.symm (by assumption)
  | (refine' ne_old (by assumption) ?a; (case a => (kaf_pre; done)))
  | (refine' ne_new (by assumption) ?a; (case a => (kaf_pre; done)))
  | fail "tlg_ne")
local macro_rules | `(tactic| kaf_pre) => `(tactic| first
  | with_reducible assumption
  | ((with_reducible refine' upd_at ?a); (case a => rfl))
  | ((first
      | (with_reducible refine' get_new (by assumption) ?b)
      | ((with_reducible refine' get_set ?a ?b); (case a => (tlg_ne; done)))
      | ((with_reducible refine' Keep.get (by assumption) ?a ?b); (case a => (first | assumption | (intro z; exact z.elim) | fail "kaf_pre")))
      | fail "kaf_pre"); (case b => (kaf_pre; done)))
  | ((fail_if_success (with_reducible refine' is_upd ?_)); assumption)
  | ((with_reducible refine' get_setK ?a ?b ?e); (case a => (kaf_pre; done)); (case b => (kaf_pre; done)); (case e => (intro z; cases z; done)))
  | fail "kaf_pre")
local macro_rules | `(tactic| isplit) => `(tactic| first
  | assumption
  | ((with_reducible refine' seq_new (by assumption) ?a); (case a => (isplit; done)))
  | ((with_reducible refine' seq_keep (by assumption) ?a); (case a => (isplit; done))))
local macro_rules | `(tactic| kaf_suf) => `(tactic| first
  | with_reducible refine r_seq ?_
  | with_reducible refine r_asg ?_
  | ((with_reducible refine' r_var ?a ?_); (case a => rfl))
  | with_reducible refine r_c ?_
  | with_reducible refine r_gname ?_
  | with_reducible refine r_op ?_
  | with_reducible refine r_cons ?_
  | with_reducible refine r_nil ?_
  | with_reducible refine r_cb ?_
  | with_reducible refine r_call ?_
  | with_reducible refine r_meth ?_
  | with_reducible refine r_fld ?_
  | with_reducible refine r_if ?_
  | with_reducible refine r_test ?_
  | with_reducible refine r_kB ?_
  | with_reducible refine r_ite_tt ?_
  | with_reducible refine r_ite_ff ?_
  | with_reducible refine r_ite_nt ?_
  | with_reducible refine r_ite_nf ?_
  | ((with_reducible refine' r_iteT' ?a ?_); (case a => first | assumption | rfl | omega))
  | ((with_reducible refine' r_iteF' ?a ?_); (case a => first | assumption | omega))
  | ((with_reducible refine' r_iteNT' ?a ?_); (case a => first | assumption | omega))
  | ((with_reducible refine' r_iteNF' ?a ?_); (case a => first | assumption | rfl | omega))
  | with_reducible refine r_next ?_
  | with_reducible refine r_nx ?_
  | with_reducible refine r_rt ?_
  | with_reducible refine r_bk ?_
  | with_reducible refine r_ct ?_
  | with_reducible refine r_drop ?_
  | with_reducible refine r_ret ?_
  | with_reducible refine v_add ?_
  | with_reducible refine v_sub ?_
  | with_reducible refine v_eq ?_
  | with_reducible refine v_ne ?_
  | with_reducible refine v_lt ?_
  | with_reducible refine v_le ?_
  | with_reducible refine v_gt ?_
  | with_reducible refine v_ge ?_
  | ((with_reducible refine' v_mod ?a ?_); (case a => first | assumption | decide | omega))
  | ((with_reducible refine' v_mul ?a ?_); (case a => first | assumption | decide | omega))
  | ((with_reducible refine' v_div ?a ?_); (case a => first | assumption | decide | omega))
  | ((with_reducible refine' v_pow ?a ?_); (case a => exact ⟨by decide, by decide, by decide⟩))
  | ((with_reducible refine' v_ixL ?a ?b ?_); (case a => (kaf_pre; done)); (case b => (first | assumption | rfl)))
  | ((with_reducible refine' v_ixT ?a ?b ?_); (case a => (kaf_pre; done)); (case b => (first | assumption | rfl)))
  | ((with_reducible refine' v_lenL ?a ?_); (case a => (kaf_pre; done)))
  | ((with_reducible refine' v_lenT ?a ?_); (case a => (kaf_pre; done)))
  | ((with_reducible refine' v_lenK ?a ?_); (case a => (isplit; done)))
  | ((with_reducible refine' v_ixK ?a ?b ?_); (case a => (isplit; done)); (case b => (first | assumption | rfl)))
  | ((with_reducible refine' v_append ?a ?b ?_); (case a => (kaf_pre; done)); (case b => first | assumption | exact few1 (by simp; omega)))
  | ((with_reducible refine' r_krng1 ?a ?_); (case a => first | assumption | decide | omega))
  | with_reducible refine v_int ?_
  | with_reducible refine v_intB ?_
  | with_reducible refine v_max ?_
  | with_reducible refine v_min ?_
  | with_reducible refine r_and ?_
  | with_reducible refine r_or ?_
  | with_reducible refine r_not ?_
  | with_reducible refine r_tup ?_
  | with_reducible refine r_lst ?_
  | ((with_reducible refine' r_ktup ?a ?_); (case a => (simp; done)))
  | ((with_reducible refine' r_klst ?a ?_); (case a => (simp; done)))
  | with_reducible refine r_bm ?_
  | with_reducible refine r_bm0 ?_
  | ((with_reducible refine' r_kbm_l ?a ?_); (case a => (kaf_pre; done)))
  | with_reducible refine r_gsub ?_
  | ((with_reducible refine' v_setL ?a ?b ?_); (case a => (kaf_pre; done)); (case b => first | assumption | rfl))
  | with_reducible refine r_sfld ?_
  | with_reducible refine r_make ?_
  | with_reducible refine r_for ?_
  | with_reducible refine r_rng1 ?_
  | with_reducible refine r_iany ?_
  | ((with_reducible refine' r_kiterL ?a ?_); (case a => (kaf_pre; done)))
  | ((with_reducible refine' r_kiterT ?a ?_); (case a => (kaf_pre; done)))
  | with_reducible refine r_lc ?_
  | with_reducible refine r_yes ?_
  | with_reducible refine r_chain ?_
  | with_reducible refine r_andV ?_
  | with_reducible refine r_orV ?_
  | with_reducible refine r_notV ?_
  | with_reducible refine r_tru ?_
  | with_reducible refine r_tru_bl ?_
  | with_reducible refine r_un ?_
  | with_reducible refine r_rU ?_
  | with_reducible refine r_sl ?_
  | with_reducible refine r_nopart ?_
  | with_reducible refine r_part ?_
  | with_reducible refine r_kI ?_
  | with_reducible refine r_rev ?_
  | with_reducible refine r_lstRg1 ?_
  | with_reducible refine r_krg ?_
  | with_reducible refine v_isN ?_
  | with_reducible refine v_notN ?_
  | with_reducible refine v_isB ?_
  | with_reducible refine v_notB ?_
  | with_reducible refine v_eqS ?_
  | with_reducible refine v_neS ?_
  | ((with_reducible refine' v_isiI ?a ?_); (case a => first | with_reducible exact kit_int_int | with_reducible exact kit_int_bool | with_reducible exact kit_int_list | with_reducible exact kit_int_tuple | with_reducible exact kit_int_str))
  | ((with_reducible refine' v_isiB ?a ?_); (case a => first | with_reducible exact kit_bool_int | with_reducible exact kit_bool_bool | with_reducible exact kit_bool_list | with_reducible exact kit_bool_tuple | with_reducible exact kit_bool_str))
  | ((with_reducible refine' v_isiS ?a ?_); (case a => first | with_reducible exact kit_str_int | with_reducible exact kit_str_bool | with_reducible exact kit_str_list | with_reducible exact kit_str_tuple | with_reducible exact kit_str_str))
  | ((with_reducible refine' v_isiL ?a ?b ?_); (case a => (kaf_pre; done)); (case b => first | with_reducible exact kit_list_int | with_reducible exact kit_list_bool | with_reducible exact kit_list_list | with_reducible exact kit_list_tuple | with_reducible exact kit_list_str))
  | ((with_reducible refine' v_isiT ?a ?b ?_); (case a => (kaf_pre; done)); (case b => first | with_reducible exact kit_tuple_int | with_reducible exact kit_tuple_bool | with_reducible exact kit_tuple_list | with_reducible exact kit_tuple_tuple | with_reducible exact kit_tuple_str))
  | with_reducible refine r_brk ?_
  | with_reducible refine r_cont ?_
  | with_reducible refine r_par ?_
  | with_reducible refine r_par2 ?_
  | with_reducible refine v_abs ?_
  | ((with_reducible refine' v_listL ?a ?_); (case a => (kaf_pre; done)))
  | ((with_reducible refine' v_listT ?a ?_); (case a => (kaf_pre; done)))
  | ((with_reducible refine' v_set ?a ?b ?_); (case a => (kaf_pre; done)); (case b => first | assumption | omega | (simp; omega)))
  | ((with_reducible refine' v_sortedS ?a ?_); (case a => (kaf_pre; done)))
  | ((with_reducible refine' v_sortedL ?a ?_); (case a => (kaf_pre; done)))
  | ((with_reducible refine' v_tupleL ?a ?_); (case a => (kaf_pre; done)))
  | ((with_reducible refine' v_addL ?a ?b ?e ?_); (case a => (kaf_pre; done)); (case b => (kaf_pre; done)); (case e => first | assumption | exact few2 (by simp; omega)))
  | ((with_reducible refine' v_addT ?a ?b ?e ?_); (case a => (kaf_pre; done)); (case b => (kaf_pre; done)); (case e => first | assumption | exact few2 (by simp; omega))))

local macro_rules | `(tactic| kaf_suf) => `(tactic| first
  | with_reducible refine r_raiseC ?_
  | with_reducible refine r_raiseE ?_
  | with_reducible refine r_tryV ?_
  | with_reducible refine r_methS ?_
  | with_reducible refine r_callW ?_
  | with_reducible refine v_isiN kit_NoneType_int ?_)

def top (i : Nat) : Stmt := PySem.Challenge.pw_hotmoves_k04_no_games_refused.main.body.getD i (.Pass ⟨0, 0, 0, 0⟩)
abbrev s_Book_init : Stmt := inClass (top 10) 0
abbrev s_Book_need : Stmt := inClass (top 10) 1
abbrev s_Book_game : Stmt := inClass (top 10) 2
abbrev s_Book_lefts : Stmt := inClass (top 10) 3
abbrev s_Book_rights : Stmt := inClass (top 10) 4
abbrev s_Book_depth : Stmt := inClass (top 10) 5
abbrev s_Book_many : Stmt := inClass (top 10) 6
abbrev s_law_deck : Stmt := top 12
abbrev s_law_draw : Stmt := top 13
abbrev s_law_moves : Stmt := top 14
abbrev s_law_grown : Stmt := top 15
abbrev s_law_kinds : Stmt := top 16
abbrev s_law_asked : Stmt := top 17
abbrev s_law_refused : Stmt := top 18
abbrev s_law_depths : Stmt := top 19
abbrev s_law : Stmt := top 20
structure Cn where
  P : Program
  w : World
  K : PySem.W.Frag
  cGameError : Addr
  cNoGame : Addr
  cNoRoad : Addr
  cNoBoard : Addr
  cNoNumber : Addr
  cNoText : Addr
  cNoName : Addr
  cNoRow : Addr
  cBook : Addr
structure Txt (c : Cn) (mg : Str → Option Value) : Prop where
  n_ValueError : mg "ValueError" = none
  n_bool : mg "bool" = none
  n_int : mg "int" = none
  n_isinstance : mg "isinstance" = none
  n_len : mg "len" = none
  n_list : mg "list" = none
  n_max : mg "max" = none
  n_min : mg "min" = none
  n_range : mg "range" = none
  n_set : mg "set" = none
  n_sorted : mg "sorted" = none
  n_tuple : mg "tuple" = none
  g_GameError : mg "GameError" = some (.ref c.cGameError)
  g_NoGame : mg "NoGame" = some (.ref c.cNoGame)
  g_NoRoad : mg "NoRoad" = some (.ref c.cNoRoad)
  g_NoBoard : mg "NoBoard" = some (.ref c.cNoBoard)
  g_NoNumber : mg "NoNumber" = some (.ref c.cNoNumber)
  g_NoText : mg "NoText" = some (.ref c.cNoText)
  g_NoName : mg "NoName" = some (.ref c.cNoName)
  g_NoRow : mg "NoRow" = some (.ref c.cNoRow)
  g_Book : mg "Book" = some (.ref c.cBook)
  x_GameError : XCl c.K mg "GameError" c.cGameError
  m_GameError : PySem.W.exmOne c.K (.ref c.cGameError) (.ref c.cGameError) = some true
  x_NoBoard : XCl c.K mg "NoBoard" c.cNoBoard
  m_NoBoard : PySem.W.exmOne c.K (.ref c.cNoBoard) (.ref c.cGameError) = some true
  x_NoGame : XCl c.K mg "NoGame" c.cNoGame
  m_NoGame : PySem.W.exmOne c.K (.ref c.cNoGame) (.ref c.cGameError) = some true
  x_NoName : XCl c.K mg "NoName" c.cNoName
  m_NoName : PySem.W.exmOne c.K (.ref c.cNoName) (.ref c.cGameError) = some true
  x_NoNumber : XCl c.K mg "NoNumber" c.cNoNumber
  m_NoNumber : PySem.W.exmOne c.K (.ref c.cNoNumber) (.ref c.cGameError) = some true
  x_NoRoad : XCl c.K mg "NoRoad" c.cNoRoad
  m_NoRoad : PySem.W.exmOne c.K (.ref c.cNoRoad) (.ref c.cGameError) = some true
  x_NoRow : XCl c.K mg "NoRow" c.cNoRow
  m_NoRow : PySem.W.exmOne c.K (.ref c.cNoRow) (.ref c.cGameError) = some true
  x_NoText : XCl c.K mg "NoText" c.cNoText
  m_NoText : PySem.W.exmOne c.K (.ref c.cNoText) (.ref c.cGameError) = some true
  e_GameError : ExcC c.K c.cGameError
  iv_GameError : PySem.W.kitOne c.K (.ref c.cGameError) (.type "ValueError") = some true
  i_GameError_GameError : PySem.W.kitOne c.K (.ref c.cGameError) (.ref c.cGameError) = some true
  i_GameError_NoBoard : PySem.W.kitOne c.K (.ref c.cGameError) (.ref c.cNoBoard) = some false
  i_GameError_NoGame : PySem.W.kitOne c.K (.ref c.cGameError) (.ref c.cNoGame) = some false
  i_GameError_NoName : PySem.W.kitOne c.K (.ref c.cGameError) (.ref c.cNoName) = some false
  i_GameError_NoNumber : PySem.W.kitOne c.K (.ref c.cGameError) (.ref c.cNoNumber) = some false
  i_GameError_NoRoad : PySem.W.kitOne c.K (.ref c.cGameError) (.ref c.cNoRoad) = some false
  i_GameError_NoRow : PySem.W.kitOne c.K (.ref c.cGameError) (.ref c.cNoRow) = some false
  i_GameError_NoText : PySem.W.kitOne c.K (.ref c.cGameError) (.ref c.cNoText) = some false
  e_NoBoard : ExcC c.K c.cNoBoard
  iv_NoBoard : PySem.W.kitOne c.K (.ref c.cNoBoard) (.type "ValueError") = some true
  i_NoBoard_GameError : PySem.W.kitOne c.K (.ref c.cNoBoard) (.ref c.cGameError) = some true
  i_NoBoard_NoBoard : PySem.W.kitOne c.K (.ref c.cNoBoard) (.ref c.cNoBoard) = some true
  i_NoBoard_NoGame : PySem.W.kitOne c.K (.ref c.cNoBoard) (.ref c.cNoGame) = some false
  i_NoBoard_NoName : PySem.W.kitOne c.K (.ref c.cNoBoard) (.ref c.cNoName) = some false
  i_NoBoard_NoNumber : PySem.W.kitOne c.K (.ref c.cNoBoard) (.ref c.cNoNumber) = some false
  i_NoBoard_NoRoad : PySem.W.kitOne c.K (.ref c.cNoBoard) (.ref c.cNoRoad) = some false
  i_NoBoard_NoRow : PySem.W.kitOne c.K (.ref c.cNoBoard) (.ref c.cNoRow) = some false
  i_NoBoard_NoText : PySem.W.kitOne c.K (.ref c.cNoBoard) (.ref c.cNoText) = some false
  e_NoGame : ExcC c.K c.cNoGame
  iv_NoGame : PySem.W.kitOne c.K (.ref c.cNoGame) (.type "ValueError") = some true
  i_NoGame_GameError : PySem.W.kitOne c.K (.ref c.cNoGame) (.ref c.cGameError) = some true
  i_NoGame_NoBoard : PySem.W.kitOne c.K (.ref c.cNoGame) (.ref c.cNoBoard) = some false
  i_NoGame_NoGame : PySem.W.kitOne c.K (.ref c.cNoGame) (.ref c.cNoGame) = some true
  i_NoGame_NoName : PySem.W.kitOne c.K (.ref c.cNoGame) (.ref c.cNoName) = some false
  i_NoGame_NoNumber : PySem.W.kitOne c.K (.ref c.cNoGame) (.ref c.cNoNumber) = some false
  i_NoGame_NoRoad : PySem.W.kitOne c.K (.ref c.cNoGame) (.ref c.cNoRoad) = some false
  i_NoGame_NoRow : PySem.W.kitOne c.K (.ref c.cNoGame) (.ref c.cNoRow) = some false
  i_NoGame_NoText : PySem.W.kitOne c.K (.ref c.cNoGame) (.ref c.cNoText) = some false
  e_NoName : ExcC c.K c.cNoName
  iv_NoName : PySem.W.kitOne c.K (.ref c.cNoName) (.type "ValueError") = some true
  i_NoName_GameError : PySem.W.kitOne c.K (.ref c.cNoName) (.ref c.cGameError) = some true
  i_NoName_NoBoard : PySem.W.kitOne c.K (.ref c.cNoName) (.ref c.cNoBoard) = some false
  i_NoName_NoGame : PySem.W.kitOne c.K (.ref c.cNoName) (.ref c.cNoGame) = some false
  i_NoName_NoName : PySem.W.kitOne c.K (.ref c.cNoName) (.ref c.cNoName) = some true
  i_NoName_NoNumber : PySem.W.kitOne c.K (.ref c.cNoName) (.ref c.cNoNumber) = some false
  i_NoName_NoRoad : PySem.W.kitOne c.K (.ref c.cNoName) (.ref c.cNoRoad) = some false
  i_NoName_NoRow : PySem.W.kitOne c.K (.ref c.cNoName) (.ref c.cNoRow) = some false
  i_NoName_NoText : PySem.W.kitOne c.K (.ref c.cNoName) (.ref c.cNoText) = some false
  e_NoNumber : ExcC c.K c.cNoNumber
  iv_NoNumber : PySem.W.kitOne c.K (.ref c.cNoNumber) (.type "ValueError") = some true
  i_NoNumber_GameError : PySem.W.kitOne c.K (.ref c.cNoNumber) (.ref c.cGameError) = some true
  i_NoNumber_NoBoard : PySem.W.kitOne c.K (.ref c.cNoNumber) (.ref c.cNoBoard) = some false
  i_NoNumber_NoGame : PySem.W.kitOne c.K (.ref c.cNoNumber) (.ref c.cNoGame) = some false
  i_NoNumber_NoName : PySem.W.kitOne c.K (.ref c.cNoNumber) (.ref c.cNoName) = some false
  i_NoNumber_NoNumber : PySem.W.kitOne c.K (.ref c.cNoNumber) (.ref c.cNoNumber) = some true
  i_NoNumber_NoRoad : PySem.W.kitOne c.K (.ref c.cNoNumber) (.ref c.cNoRoad) = some false
  i_NoNumber_NoRow : PySem.W.kitOne c.K (.ref c.cNoNumber) (.ref c.cNoRow) = some false
  i_NoNumber_NoText : PySem.W.kitOne c.K (.ref c.cNoNumber) (.ref c.cNoText) = some false
  e_NoRoad : ExcC c.K c.cNoRoad
  iv_NoRoad : PySem.W.kitOne c.K (.ref c.cNoRoad) (.type "ValueError") = some true
  i_NoRoad_GameError : PySem.W.kitOne c.K (.ref c.cNoRoad) (.ref c.cGameError) = some true
  i_NoRoad_NoBoard : PySem.W.kitOne c.K (.ref c.cNoRoad) (.ref c.cNoBoard) = some false
  i_NoRoad_NoGame : PySem.W.kitOne c.K (.ref c.cNoRoad) (.ref c.cNoGame) = some false
  i_NoRoad_NoName : PySem.W.kitOne c.K (.ref c.cNoRoad) (.ref c.cNoName) = some false
  i_NoRoad_NoNumber : PySem.W.kitOne c.K (.ref c.cNoRoad) (.ref c.cNoNumber) = some false
  i_NoRoad_NoRoad : PySem.W.kitOne c.K (.ref c.cNoRoad) (.ref c.cNoRoad) = some true
  i_NoRoad_NoRow : PySem.W.kitOne c.K (.ref c.cNoRoad) (.ref c.cNoRow) = some false
  i_NoRoad_NoText : PySem.W.kitOne c.K (.ref c.cNoRoad) (.ref c.cNoText) = some false
  e_NoRow : ExcC c.K c.cNoRow
  iv_NoRow : PySem.W.kitOne c.K (.ref c.cNoRow) (.type "ValueError") = some true
  i_NoRow_GameError : PySem.W.kitOne c.K (.ref c.cNoRow) (.ref c.cGameError) = some true
  i_NoRow_NoBoard : PySem.W.kitOne c.K (.ref c.cNoRow) (.ref c.cNoBoard) = some false
  i_NoRow_NoGame : PySem.W.kitOne c.K (.ref c.cNoRow) (.ref c.cNoGame) = some false
  i_NoRow_NoName : PySem.W.kitOne c.K (.ref c.cNoRow) (.ref c.cNoName) = some false
  i_NoRow_NoNumber : PySem.W.kitOne c.K (.ref c.cNoRow) (.ref c.cNoNumber) = some false
  i_NoRow_NoRoad : PySem.W.kitOne c.K (.ref c.cNoRow) (.ref c.cNoRoad) = some false
  i_NoRow_NoRow : PySem.W.kitOne c.K (.ref c.cNoRow) (.ref c.cNoRow) = some true
  i_NoRow_NoText : PySem.W.kitOne c.K (.ref c.cNoRow) (.ref c.cNoText) = some false
  e_NoText : ExcC c.K c.cNoText
  iv_NoText : PySem.W.kitOne c.K (.ref c.cNoText) (.type "ValueError") = some true
  i_NoText_GameError : PySem.W.kitOne c.K (.ref c.cNoText) (.ref c.cGameError) = some true
  i_NoText_NoBoard : PySem.W.kitOne c.K (.ref c.cNoText) (.ref c.cNoBoard) = some false
  i_NoText_NoGame : PySem.W.kitOne c.K (.ref c.cNoText) (.ref c.cNoGame) = some false
  i_NoText_NoName : PySem.W.kitOne c.K (.ref c.cNoText) (.ref c.cNoName) = some false
  i_NoText_NoNumber : PySem.W.kitOne c.K (.ref c.cNoText) (.ref c.cNoNumber) = some false
  i_NoText_NoRoad : PySem.W.kitOne c.K (.ref c.cNoText) (.ref c.cNoRoad) = some false
  i_NoText_NoRow : PySem.W.kitOne c.K (.ref c.cNoText) (.ref c.cNoRow) = some false
  i_NoText_NoText : PySem.W.kitOne c.K (.ref c.cNoText) (.ref c.cNoText) = some true
  cl_Book : Cls c.K c.cBook
  na_Book_depths : NoAttr c.K c.cBook "depths"
  na_Book_moves : NoAttr c.K c.cBook "moves"
  na_Book_numbers : NoAttr c.K c.cBook "numbers"
  F_Book_init : ∃ (f : Addr) (fd : FuncData), Fun c.K "__init__" "Book.__init__" s_Book_init f fd ∧ Mk c.K c.cBook f ∧ Binds c.K fd ["self"] []
  F_Book_need : ∃ (f : Addr) (fd : FuncData), Fun c.K "need" "Book.need" s_Book_need f fd ∧ Meth c.K c.cBook "need" f ∧ Binds c.K fd ["self", "g"] []
  F_Book_game : ∃ (f : Addr) (fd : FuncData), Fun c.K "game" "Book.game" s_Book_game f fd ∧ Meth c.K c.cBook "game" f ∧ Binds c.K fd ["self", "lefts", "rights"] []
  F_Book_lefts : ∃ (f : Addr) (fd : FuncData), Fun c.K "lefts" "Book.lefts" s_Book_lefts f fd ∧ Meth c.K c.cBook "lefts" f ∧ Binds c.K fd ["self", "g"] []
  F_Book_rights : ∃ (f : Addr) (fd : FuncData), Fun c.K "rights" "Book.rights" s_Book_rights f fd ∧ Meth c.K c.cBook "rights" f ∧ Binds c.K fd ["self", "g"] []
  F_Book_depth : ∃ (f : Addr) (fd : FuncData), Fun c.K "depth" "Book.depth" s_Book_depth f fd ∧ Meth c.K c.cBook "depth" f ∧ Binds c.K fd ["self", "g"] []
  F_Book_many : ∃ (f : Addr) (fd : FuncData), Fun c.K "many" "Book.many" s_Book_many f fd ∧ Meth c.K c.cBook "many" f ∧ Binds c.K fd ["self"] []
  F_law_deck : ∃ (f : Addr) (fd : FuncData), Fun c.K "_law_deck" "_law_deck" s_law_deck f fd ∧ mg "_law_deck" = some (.ref f) ∧ Binds c.K fd ["script"] []
  F_law_draw : ∃ (f : Addr) (fd : FuncData), Fun c.K "_law_draw" "_law_draw" s_law_draw f fd ∧ mg "_law_draw" = some (.ref f) ∧ Binds c.K fd ["deck", "many"] []
  F_law_moves : ∃ (f : Addr) (fd : FuncData), Fun c.K "_law_moves" "_law_moves" s_law_moves f fd ∧ mg "_law_moves" = some (.ref f) ∧ Binds c.K fd ["deck", "many"] []
  F_law_grown : ∃ (f : Addr) (fd : FuncData), Fun c.K "_law_grown" "_law_grown" s_law_grown f fd ∧ mg "_law_grown" = some (.ref f) ∧ Binds c.K fd ["deck", "book", "many"] []
  F_law_kinds : ∃ (f : Addr) (fd : FuncData), Fun c.K "_law_kinds" "_law_kinds" s_law_kinds f fd ∧ mg "_law_kinds" = some (.ref f) ∧ Binds c.K fd ["caught", "due"] []
  F_law_asked : ∃ (f : Addr) (fd : FuncData), Fun c.K "_law_asked" "_law_asked" s_law_asked f fd ∧ mg "_law_asked" = some (.ref f) ∧ Binds c.K fd ["book", "way", "thing", "some", "other"] []
  F_law_refused : ∃ (f : Addr) (fd : FuncData), Fun c.K "_law_refused" "_law_refused" s_law_refused f fd ∧ mg "_law_refused" = some (.ref f) ∧ Binds c.K fd ["book", "way", "thing", "some", "other"] []
  F_law_depths : ∃ (f : Addr) (fd : FuncData), Fun c.K "_law_depths" "_law_depths" s_law_depths f fd ∧ mg "_law_depths" = some (.ref f) ∧ Binds c.K fd ["rows"] []
/-! the deck: what is drawn from it is any number -/
abbrev N_law_deck : List Str := ["script", "pools", "k", "cell"]
theorem sc_law_deck : FnScope N_law_deck ["script"] (defScope s_law_deck) := ⟨rfl, rfl, rfl, by decide +kernel, rfl, by decide +kernel, by decide +kernel⟩
def t_law_deck (c : Cn) : TS :=
  (tSeq (tAsg (tLst tNil) (gName 1))
  (tSeq (tFor (iRng1 (tCons (tCB (kMax c.K) (tCons (tC (.int 1)) (tCons (tCB (kMin c.K) (tCons (tC (.int 63)) (tCons (tCB (kLen c.K) (tCons (tVar 0) tNil)) tNil))) tNil))) tNil)) (gName 2)
  (tSeq (tAsg (tC (.int 0)) (gName 3))
  (C8.tCut (tIfS (tTest (tOp (cLt c.K) (tVar 2) (tCB (kLen c.K) (tCons (tVar 0) tNil))))
  (tAsg (tOp (bIx c.P c.w c.K) (tVar 0) (tVar 2)) (gName 3))
  tNext)
  (tDrop (tBM c.K "list" rAppend (tVar 1) (tCons (tLst (tCons (tVar 3) (tCons (tCB kInt (tCons (tOp cGe (tVar 3) (tOp bPow (tC (.int 10)) (tC (.int 18)))) tNil)) (tCons (tOp bMul (tC (.int 31)) (tVar 2)) tNil)))) tNil))))))
  (tRet (tLst (tCons (tVar 1) (tCons (tC (.int 0)) tNil))))))
abbrev N_law_draw : List Str := ["deck", "many", "pool", "found", "number"]
theorem sc_law_draw : FnScope N_law_draw ["deck", "many"] (defScope s_law_draw) := ⟨rfl, rfl, rfl, by decide +kernel, rfl, by decide +kernel, by decide +kernel⟩
def t_law_draw (c : Cn) : TS :=
  (tSeq (tAsg (tOp (bIx c.P c.w c.K) (tOp (bIx c.P c.w c.K) (tVar 0) (tC (.int 0))) (tOp bMod (tOp (bIx c.P c.w c.K) (tVar 0) (tC (.int 1))) (tCB (kLen c.K) (tCons (tOp (bIx c.P c.w c.K) (tVar 0) (tC (.int 0))) tNil)))) (gName 2))
  (tSeq (tAsg (tOp (bAdd c.K) (tOp (bIx c.P c.w c.K) (tVar 0) (tC (.int 1))) (tC (.int 1))) (gSub (tVar 0) (tC (.int 1)) (bSet c.P c.w)))
  (tSeq (tIfS (tAnd (tTest (tOp (cEq c.K) (tOp (bIx c.P c.w c.K) (tVar 2) (tC (.int 1))) (tC (.int 1)))) (tTest (tOp cGt (tOp (bIx c.P c.w c.K) (tVar 2) (tC (.int 0))) (tC (.int 0)))))
  (tSeq (tAsg (tOp bMod (tOp (bIx c.P c.w c.K) (tVar 2) (tC (.int 0))) (tVar 1)) (gName 3))
  (tSeq (tAsg (tOp bDiv (tOp (bIx c.P c.w c.K) (tVar 2) (tC (.int 0))) (tVar 1)) (gSub (tVar 2) (tC (.int 0)) (bSet c.P c.w)))
  (tRet (tVar 3))))
  tNext)
  (tSeq (tAsg (tOp (bAdd c.K) (tOp (bIx c.P c.w c.K) (tVar 2) (tC (.int 2))) (tC (.int 1))) (gSub (tVar 2) (tC (.int 2)) (bSet c.P c.w)))
  (tSeq (tAsg (tOp bMod (tOp (bAdd c.K) (tOp bMod (tOp (bIx c.P c.w c.K) (tVar 2) (tC (.int 0))) (tC (.int 99999999977))) (tOp bMul (tC (.int 700001)) (tOp (bIx c.P c.w c.K) (tVar 2) (tC (.int 2))))) (tC (.int 99999999947))) (gName 4))
  (tSeq (tAsg (tOp bMod (tOp bMul (tVar 4) (tVar 4)) (tC (.int 99999999821))) (gName 4))
  (tSeq (tAsg (tOp bMod (tOp bMul (tVar 4) (tOp (bAdd c.K) (tVar 4) (tC (.int 19)))) (tC (.int 9999999967))) (gName 4))
  (tRet (tOp bMod (tOp bDiv (tVar 4) (tC (.int 13))) (tVar 1))))))))))
structure DeckAt (H : Hp) (d : Addr) (M : Addr → Prop) : Prop where
  ex : ∃ (pl : Addr) (ps : List Addr) (i : Int), H d = some (.lst [.ref pl, .int i]) ∧ 0 ≤ i ∧ H pl = some (.lst (ps.map V.ref)) ∧ ps ≠ [] ∧ d ≠ pl ∧ M d ∧ M pl ∧
    (∀ q ∈ ps, M q ∧ q ≠ d ∧ q ≠ pl ∧ ∃ a b k, H q = some (.lst [.int a, .int b, .int k])) ∧ ∀ x, M x → x = d ∨ x = pl ∨ x ∈ ps
theorem keep_noneM {M : Addr → Prop} {H H' : Hp} {p : Addr} (k : Keep M H H') (n : ¬ M p) (h : H' p = none) : H p = none := by
  cases e : H p with
  | none => rfl
  | some o => rw [k p o n e] at h; cases h
theorem DeckAt.dom {H : Hp} {d : Addr} {M : Addr → Prop} (D : DeckAt H d M) {x : Addr} (h : M x) : H x ≠ none := by
  obtain ⟨pl, ps, i, h1, _, h2, _, _, _, _, h3, h4⟩ := D.ex
  rcases h4 x h with rfl | rfl | hx
  · rw [h1]; simp
  · rw [h2]; simp
  · obtain ⟨_, _, _, a, b, k, e⟩ := h3 x hx
    rw [e]; simp
theorem DeckAt.new {H : Hp} {d : Addr} {M : Addr → Prop} (D : DeckAt H d M) {x : Addr} (h : H x = none) : ¬ M x := fun z => D.dom z h
theorem DeckAt.keep {H H' : Hp} {d : Addr} {M N : Addr → Prop} (D : DeckAt H d M) (k : Keep N H H') (n : ∀ x, M x → ¬ N x) : DeckAt H' d M := by
  obtain ⟨pl, ps, i, h1, h0, h2, hp, ne, m1, m2, h3, h4⟩ := D.ex
  refine ⟨pl, ps, i, k _ _ (n _ m1) h1, h0, k _ _ (n _ m2) h2, hp, ne, m1, m2, fun q hq => ?_, h4⟩
  obtain ⟨m, e1, e2, a, b, c, e⟩ := h3 q hq
  exact ⟨m, e1, e2, a, b, c, k _ _ (n _ m) e⟩
def sp_law_draw (c : Cn) : Sp := fun vs H Q E => vs.length = 2 ∧ ∃ (d : Addr) (m : Int) (M : Addr → Prop), vs = [.ref d, .int m] ∧ 1 ≤ m ∧ m < 1073741824 ∧ DeckAt H d M ∧
  ∀ (H' : Hp) (n : Int), Keep M H H' → DeckAt H' d M → 0 ≤ n → n < m → Q (.int n) H'
theorem atI_get {xs : List V} {i : Int} {v : V} {n : Nat} (h : xs[n]? = some v) (e : i = n) : atI xs i = some v := by
  subst e
  have hn : n < xs.length := (List.getElem?_eq_some_iff.mp h).1
  unfold atI ixN
  rw [if_pos (Int.natCast_nonneg n), if_pos (by omega)]
  simpa using h
theorem p_law_draw {c : Cn} {mg : Str → Option Value} (T : Txt c mg) {vs : List V} {H : Hp} {Q : VK} {E : XK} (h : sp_law_draw c vs H Q E) : t_law_draw c { nx := fun _ H' => Q .non H', rt := Q } (start N_law_draw vs) H := by
  obtain ⟨_, d, m, M, rfl, m1, m2, D, k⟩ := h
  obtain ⟨pl, ps, i, h1, h0, h2, hp, ne, md, mpl, h3, h4⟩ := D.ex
  have hl : (0 : Int) < ps.length := by
    cases ps with
    | nil => exact absurd rfl hp
    | cons _ _ => simp only [List.length_cons]; omega
  have pos : (0 : Int) < (ps.map V.ref).length := by simpa using hl
  obtain ⟨q, hq, hqm⟩ : ∃ q, atI (ps.map V.ref) (i % ((ps.map V.ref).length : Int)) = some (V.ref q) ∧ q ∈ ps := by
    have b1 := Int.emod_nonneg i (Int.ne_of_gt pos)
    have b2 := Int.emod_lt_of_pos i pos
    obtain ⟨n, hn⟩ := Int.eq_ofNat_of_zero_le b1
    rw [hn] at b2 ⊢
    have lt : n < ps.length := by rw [List.length_map] at b2; omega
    exact ⟨ps[n], atI_get (n := n) (by simp [lt]) rfl, List.getElem_mem lt⟩
  obtain ⟨mq, qd, qp, a, b, k3, hq3⟩ := h3 q hqm
  -- the deck behind the turn
  have again : ∀ (H' : Hp), (∀ x o, x ≠ d → x ≠ q → H x = some o → H' x = some o) → H' d = some (.lst [.ref pl, .int (i + 1)]) → (∃ a b k, H' q = some (.lst [.int a, .int b, .int k])) → ∀ z : Int, Q (.int (z % m)) H' := by
    intro H' kp e1 e2 z
    refine k _ _ (fun x o nx hx => kp x o (fun z => nx (by rw [z]; exact md)) (fun z => nx (by rw [z]; exact mq)) hx) ⟨pl, ps, i + 1, e1, by omega, kp pl _ ne.symm qp.symm h2, hp, ne, md, mpl, fun x hx => ?_, h4⟩ (Int.emod_nonneg _ (by omega)) (Int.emod_lt_of_pos _ (by omega))
    obtain ⟨m1, n1, n2, a', b', k', e⟩ := h3 x hx
    refine ⟨m1, n1, n2, ?_⟩
    by_cases z : x = q
    · rw [z]; exact e2
    · exact ⟨a', b', k', kp x _ n1 z e⟩
  unfold t_law_draw
  repeat kaf_suf
  refine r_ite (fun e1 => ?_) (fun e1 => ?_) <;> repeat kaf_suf
  refine r_ite (fun e2 => ?_) (fun e2 => ?_) <;> repeat kaf_suf
  all_goals
    refine again _ (fun x o n1 n2 hx => ?_) ?_ ⟨_, _, _, upd_same⟩ _
    · kaf_pre
    · kaf_pre
theorem cal_law_draw {c : Cn} {mg : Str → Option Value} {base : Heap} (T : Txt c mg) : Cal c.P c.w c.K mg base CX0 1 "_law_draw" (sp_law_draw c) := by
  obtain ⟨f, fd, F, g, b⟩ := T.F_law_draw
  exact ⟨f, fd, ["deck", "many"], F.ok (k := 0) (N := N_law_draw) sc_law_draw (fun vs H Q E h => h.1) (fun cdv A outer s H vs Q E hr h => ⟨t_law_draw c, by
  exact (pss_cons (ps_set (i := 2) sc_law_draw.nd rfl (Or.inl rfl) (pe_ix (x_ix (hu64 hr)) (pe_ix (x_ix (hu64 hr)) (pv 0) pe_int (fun _ _ => rfl)) (pe_op o_mod (pe_ix (x_ix (hu64 hr)) (pv 0) pe_int (fun _ _ => rfl)) (pe_callB k_len (by rfl) T.n_len (by decide +kernel) (pa_cons (pe_ix (x_ix (hu64 hr)) (pv 0) pe_int (fun _ _ => rfl)) pa_nil))) (fun _ _ => rfl)))
  (pss_cons (ps_asg (pe_op o_add (pe_ix (x_ix (hu64 hr)) (pv 0) pe_int (fun _ _ => rfl)) pe_int) (pg_sub (pv 0) pe_int (s_set (hu64 hr))))
  (pss_cons (ps_if (PW.pt (pw_and (pt_cmpR (o_eq (hu64 hr)) (pe_ix (x_ix (hu64 hr)) (pv 2) pe_int (fun _ _ => rfl)) pe_int (nomark _)) (pw_and1 (pt_cmpR o_gt (pe_ix (x_ix (hu64 hr)) (pv 2) pe_int (fun _ _ => rfl)) pe_int (nomark _))))) (pss_cons (ps_set (i := 3) sc_law_draw.nd rfl (Or.inl rfl) (pe_op o_mod (pe_ix (x_ix (hu64 hr)) (pv 2) pe_int (fun _ _ => rfl)) (pv 1)))
  (pss_cons (ps_asg (pe_op o_div (pe_ix (x_ix (hu64 hr)) (pv 2) pe_int (fun _ _ => rfl)) (pv 1)) (pg_sub (pv 2) pe_int (s_set (hu64 hr))))
  (pss_one (ps_ret (pv 3))))) pss_nil)
  (pss_cons (ps_asg (pe_op o_add (pe_ix (x_ix (hu64 hr)) (pv 2) pe_int (fun _ _ => rfl)) pe_int) (pg_sub (pv 2) pe_int (s_set (hu64 hr))))
  (pss_cons (ps_set (i := 4) sc_law_draw.nd rfl (Or.inl rfl) (pe_op o_mod (pe_op o_add (pe_op o_mod (pe_ix (x_ix (hu64 hr)) (pv 2) pe_int (fun _ _ => rfl)) pe_int) (pe_op o_mul pe_int (pe_ix (x_ix (hu64 hr)) (pv 2) pe_int (fun _ _ => rfl)))) pe_int))
  (pss_cons (ps_set (i := 4) sc_law_draw.nd rfl (Or.inl rfl) (pe_op o_mod (pe_op o_mul (pv 4) (pv 4)) pe_int))
  (pss_cons (ps_set (i := 4) sc_law_draw.nd rfl (Or.inl rfl) (pe_op o_mod (pe_op o_mul (pv 4) (pe_op o_add (pv 4) pe_int)) pe_int))
  (pss_one (ps_ret (pe_op o_mod (pe_op o_div (pv 4) pe_int) (pv 1))))))))))), p_law_draw T h⟩), g, F.kp, b⟩
def sp_law_deck (c : Cn) : Sp := fun vs H Q E => vs.length = 1 ∧ ∃ (a : Addr) (ns : List Int), vs = [.ref a] ∧ SqL c.K H a (ns.map V.int) ∧ ns.length ≤ 63 ∧
  ∀ (H' : Hp) (d : Addr) (M : Addr → Prop), Keep Nil H H' → DeckAt H' d M → (∀ x, M x → H x = none) → Q (.ref d) H'
theorem p_law_deck {c : Cn} {mg : Str → Option Value} (T : Txt c mg) {vs : List V} {H : Hp} {Q : VK} {E : XK} (h : sp_law_deck c vs H Q E) : t_law_deck c { nx := fun _ H' => Q .non H', rt := Q } (start N_law_deck vs) H := by
  obtain ⟨_, a, ns, rfl, hs, few, k⟩ := h
  unfold t_law_deck
  repeat kaf_suf
  intro pl hpl
  have hl : (ns.map V.int).length ≤ 63 := by rw [List.length_map]; exact few
  repeat kaf_suf
  generalize hn : (if (if (↑(List.map V.int ns).length : Int) < 63 then (↑(List.map V.int ns).length : Int) else 63) > 1 then (if (↑(List.map V.int ns).length : Int) < 63 then (↑(List.map V.int ns).length : Int) else 63) else 1) = n
  have n1 : 1 ≤ n := by rw [← hn]; split <;> omega
  have n2 : n ≤ 63 := by rw [← hn]; split <;> (try split) <;> omega
  repeat kaf_suf
  refine for_range (lo := 0) (n := n.toNat) (fun i σ H' => ∃ (ps : List Addr) (x y : Option V), σ = [some (.ref a), some (.ref pl), x, y] ∧ H' pl = some (.lst (ps.map V.ref)) ∧ ps.length = i ∧ Keep Nil H H' ∧
    ∀ q ∈ ps, H q = none ∧ q ≠ pl ∧ ∃ a b c, H' q = some (.lst [.int a, .int b, .int c])) ⟨[], none, none, rfl, upd_same, rfl, Keep.alloc hpl, fun _ z => nomatch z⟩ ?_ ?_
  · rintro i σ H1 hi ⟨ps, x, y, rfl, e1, e2, kp, e3⟩
    have i63 : i < 63 := by omega
    repeat kaf_suf
    refine ⟨fun σ' H' => H' = H1 ∧ ∃ z : Int, σ' = [some (.ref a), some (.ref pl), some (.int (0 + i)), some (.int z)], ?_, ?_⟩
    · repeat kaf_suf
      refine r_ite (fun h => ?_) (fun h => ?_)
      · have lt : i < ns.length := by rw [List.length_map] at h; omega
        have hz : atI (ns.map V.int) (0 + (i : Int)) = some (V.int ns[i]) := atI_get (n := i) (by simp [lt]) (by omega)
        repeat kaf_suf
        exact ⟨rfl, _, rfl⟩
      · repeat kaf_suf
        exact ⟨rfl, _, rfl⟩
    · rintro σ' H' ⟨rfl, z, rfl⟩
      repeat kaf_suf
      intro p hp
      have npl : p ≠ pl := ne_new hp e1
      have hp0 := keep_none kp hp
      repeat kaf_suf
      refine ⟨ps ++ [p], _, _, rfl, ?_, by simp [e2], (kp.new hp).setN hpl, fun q hq => ?_⟩
      · rw [List.map_append]; exact upd_same
      · rcases List.mem_append.mp hq with hq | hq
        · obtain ⟨f1, f2, x, y, z, f3⟩ := e3 q hq
          exact ⟨f1, f2, x, y, z, by kaf_pre⟩
        · cases List.mem_singleton.mp hq
          exact ⟨hp0, npl, _, _, _, get_set npl upd_same⟩
  · rintro σ H1 ⟨ps, x, y, rfl, e1, e2, kp, e3⟩
    repeat kaf_suf
    intro d hd
    have ndp : d ≠ pl := ne_new hd e1
    refine k _ d (fun x => x = d ∨ x = pl ∨ x ∈ ps) (kp.new hd) ⟨pl, ps, 0, upd_same, Int.le_refl _, by kaf_pre, ?_, ndp, .inl rfl, .inr (.inl rfl), fun q hq => ?_, fun _ h => h⟩ fun x hx => ?_
    · intro z; rw [z] at e2; simp at e2; omega
    · obtain ⟨f1, f2, x, y, z, f3⟩ := e3 q hq
      exact ⟨.inr (.inr hq), ne_old hd f3, f2, x, y, z, by kaf_pre⟩
    · rcases hx with rfl | rfl | hx
      · exact keep_none kp hd
      · exact hpl
      · exact (e3 x hx).1
theorem cal_law_deck {c : Cn} {mg : Str → Option Value} {base : Heap} (T : Txt c mg) : Cal c.P c.w c.K mg base CX0 1 "_law_deck" (sp_law_deck c) := by
  obtain ⟨f, fd, F, g, b⟩ := T.F_law_deck
  exact ⟨f, fd, ["script"], F.ok (k := 0) (N := N_law_deck) sc_law_deck (fun vs H Q E h => h.1) (fun cdv A outer s H vs Q E hr h => ⟨t_law_deck c, by
  exact (pss_cons (ps_set (i := 1) sc_law_deck.nd rfl (Or.inl rfl) (pe_lst pa_nil))
  (pss_cons (ps_for PassesOwn.never rfl (pi_range1 rfl T.n_range (pa_cons (pe_callB (k_max rfl) (by rfl) T.n_max (by decide +kernel) (pa_cons pe_int (pa_cons (pe_callB (k_min rfl) (by rfl) T.n_min (by decide +kernel) (pa_cons pe_int (pa_cons (pe_callB k_len (by rfl) T.n_len (by decide +kernel) (pa_cons (pv 0) pa_nil)) pa_nil))) pa_nil))) pa_nil)) (pg_name (i := 2) sc_law_deck.nd rfl (Or.inl rfl))
  (pss_cons (ps_set (i := 3) sc_law_deck.nd rfl (Or.inl rfl) pe_int)
  (C8.pss_cut (ps_if (pt_cmpR (o_lt (hu64 hr)) (pv 2) (pe_callB k_len (by rfl) T.n_len (by decide +kernel) (pa_cons (pv 0) pa_nil)) (nomark _)) (pss_one (ps_set (i := 3) sc_law_deck.nd rfl (Or.inl rfl) (pe_ix (x_ix (hu64 hr)) (pv 0) (pv 2) (fun _ _ => rfl)))) pss_nil)
  (pss_one (ps_expr (pe_bm PySem.F.plainAttrs_list PySem.F.slot_list_append PySem.F.type_list_append mt_append (pv 1) (pa_cons (pe_lst (pa_cons (pv 3) (pa_cons (pe_callTy k_int (by rfl) T.n_int (by decide +kernel) (pa_cons (pe_cmpR o_ge (pv 3) (pe_op o_pow pe_int pe_int) (nomark _)) pa_nil)) (pa_cons (pe_op o_mul pe_int (pv 2)) pa_nil)))) pa_nil)))))))
  (pss_one (ps_ret (pe_lst (pa_cons (pv 1) (pa_cons pe_int pa_nil))))))), p_law_deck T h⟩), g, F.kp, b⟩

/-! the book -/
/-- the rising list of the members -/
def ins (x : Int) : List Int → List Int
  | [] => [x]
  | y :: r => if x < y then x :: y :: r else if x = y then y :: r else y :: ins x r
def canon (l : List Int) : List Int := l.foldr ins []
theorem ins_mem {x z : Int} : ∀ {l : List Int}, z ∈ ins x l ↔ z = x ∨ z ∈ l
  | [] => by simp [ins]
  | y :: r => by
    unfold ins
    split
    · simp
    · split
      · rename_i e; subst e; simp
      · rw [List.mem_cons, ins_mem, List.mem_cons]; constructor
        · rintro (h | h | h) <;> simp [h]
        · rintro (h | h | h) <;> simp [h]
theorem ins_up {x : Int} : ∀ {l : List Int}, l.Pairwise (· < ·) → (ins x l).Pairwise (· < ·)
  | [], _ => by simp [ins]
  | y :: r, h => by
    have h' := List.pairwise_cons.mp h
    unfold ins
    split
    · rename_i lt
      refine List.pairwise_cons.mpr ⟨fun z hz => ?_, h⟩
      rcases List.mem_cons.mp hz with e | hz
      · omega
      · have := h'.1 z hz; omega
    · split
      · exact h
      · refine List.pairwise_cons.mpr ⟨fun z hz => ?_, ins_up h'.2⟩
        rcases ins_mem.mp hz with e | hz
        · omega
        · exact h'.1 z hz
theorem canon_mem {z : Int} : ∀ {l : List Int}, z ∈ canon l ↔ z ∈ l
  | [] => by simp [canon]
  | y :: r => by
    show z ∈ ins y (canon r) ↔ _
    rw [ins_mem, canon_mem, List.mem_cons]
theorem canon_up : ∀ (l : List Int), (canon l).Pairwise (· < ·)
  | [] => List.Pairwise.nil
  | y :: r => ins_up (canon_up r)
theorem up_eq : ∀ {a b : List Int}, a.Pairwise (· < ·) → b.Pairwise (· < ·) → (∀ z, z ∈ a ↔ z ∈ b) → a = b
  | [], [], _, _, _ => rfl
  | [], y :: r, _, _, h => absurd ((h y).mpr List.mem_cons_self) (by simp)
  | x :: a, [], _, _, h => absurd ((h x).mp List.mem_cons_self) (by simp)
  | x :: a, y :: b, ha, hb, h => by
    have ha' := List.pairwise_cons.mp ha
    have hb' := List.pairwise_cons.mp hb
    have e : x = y := by
      rcases List.mem_cons.mp ((h x).mp List.mem_cons_self) with e | h1
      · exact e
      · rcases List.mem_cons.mp ((h y).mpr List.mem_cons_self) with e | h2
        · exact e.symm
        · have := hb'.1 x h1; have := ha'.1 y h2; omega
    subst e
    refine congrArg (x :: ·) (up_eq ha'.2 hb'.2 fun z => ⟨fun hz => ?_, fun hz => ?_⟩)
    · rcases List.mem_cons.mp ((h z).mp (List.mem_cons_of_mem _ hz)) with e | h1
      · have := ha'.1 z hz; omega
      · exact h1
    · rcases List.mem_cons.mp ((h z).mpr (List.mem_cons_of_mem _ hz)) with e | h1
      · have := hb'.1 z hz; omega
      · exact h1
theorem canon_eq {l ns : List Int} (h1 : ns.Pairwise (· < ·)) (h2 : ∀ z, z ∈ ns ↔ z ∈ l) : ns = canon l := up_eq h1 (canon_up l) fun z => by rw [h2, canon_mem]
theorem ins_len (x : Int) : ∀ (l : List Int), (ins x l).length ≤ l.length + 1
  | [] => by simp [ins]
  | y :: r => by
    have := ins_len x r
    unfold ins
    split
    · simp
    · split
      · simp
      · simp only [List.length_cons]; omega
theorem canon_len' : ∀ (l : List Int), (canon l).length ≤ l.length
  | [] => by simp [canon]
  | y :: r => by
    have h1 := canon_len' r
    have h2 := ins_len y (canon r)
    show (ins y (canon r)).length ≤ _
    simp only [List.length_cons]; omega
theorem canon_self {l : List Int} (h : l.Pairwise (· < ·)) : canon l = l := (canon_eq h fun _ => Iff.rfl).symm
/-- a game: left's moves, right's -/
abbrev Gm := List Int × List Int
def gkey (g : Gm) : NestedKey := .tup [.tup (g.1.map .num), .tup (g.2.map .num)]
theorem num_inj : ∀ {a b : List Int}, a.map NestedKey.num = b.map NestedKey.num → a = b
  | [], [], _ => rfl
  | [], _ :: _, h => by simp at h
  | _ :: _, [], h => by simp at h
  | x :: a, y :: b, h => by
    rw [List.map_cons, List.map_cons] at h
    injection h with h1 h2
    injection h1 with h1
    rw [h1, num_inj h2]
theorem gkey_inj {a b : Gm} (h : gkey a = gkey b) : a = b := by
  unfold gkey at h
  injection h with h
  injection h with h1 h2
  injection h1 with h1
  injection h2 with h2 _
  injection h2 with h2
  exact Prod.ext (num_inj h1) (num_inj h2)
/-- the depths of the moves -/
def dps (ds ms : List Int) : List Int := ms.map fun m => ds[m.toNat]?.getD 0
def deepest (ds : List Int) (ms : List Int) (d : Int) : Prop := (ms = [] → d = 0) ∧ (∀ x ∈ dps ds ms, x + 1 ≤ d) ∧ (ms ≠ [] → ∃ x ∈ dps ds ms, d = x + 1)
theorem dps_more {ds e ms : List Int} (h : ∀ m ∈ ms, 0 ≤ m ∧ m < ds.length) : dps (ds ++ e) ms = dps ds ms := by
  refine List.map_congr_left fun m hm => ?_
  obtain ⟨h1, h2⟩ := h m hm
  rw [List.getElem?_append_left (by omega)]
/-- what holds of a book's games -/
structure GOk (gs : List Gm) : Prop where
  zero : gs[0]? = some ([], [])
  nd : gs.Nodup
  up : ∀ g ∈ gs, g.1.Pairwise (· < ·) ∧ g.2.Pairwise (· < ·)
  low : ∀ (i : Nat) (g : Gm), gs[i]? = some g → ∀ m ∈ g.1 ++ g.2, 0 ≤ m ∧ m < i
/-- the depths -/
structure DOk (gs : List Gm) (ds : List Int) : Prop where
  len : ds.length = gs.length
  at_ : ∀ (i : Nat) (g : Gm) (d : Int), gs[i]? = some g → ds[i]? = some d → deepest ds (g.1 ++ g.2) d
def bookFs (mv nm dp : Addr) : List (Str × V) := [("moves", .ref mv), ("numbers", .ref nm), ("depths", .ref dp)]
theorem bookFs_moves {mv nm dp : Addr} : (bookFs mv nm dp).lookup ("moves" : Str) = some (.ref mv) := by rfl
theorem bookFs_numbers {mv nm dp : Addr} : (bookFs mv nm dp).lookup ("numbers" : Str) = some (.ref nm) := by rfl
theorem bookFs_depths {mv nm dp : Addr} : (bookFs mv nm dp).lookup ("depths" : Str) = some (.ref dp) := by rfl
theorem bookFs_need {mv nm dp : Addr} : (bookFs mv nm dp).lookup ("need" : Str) = none := by rfl
theorem bookFs_game {mv nm dp : Addr} : (bookFs mv nm dp).lookup ("game" : Str) = none := by rfl
theorem bookFs_lefts {mv nm dp : Addr} : (bookFs mv nm dp).lookup ("lefts" : Str) = none := by rfl
theorem bookFs_rights {mv nm dp : Addr} : (bookFs mv nm dp).lookup ("rights" : Str) = none := by rfl
theorem bookFs_depth {mv nm dp : Addr} : (bookFs mv nm dp).lookup ("depth" : Str) = none := by rfl
theorem bookFs_many {mv nm dp : Addr} : (bookFs mv nm dp).lookup ("many" : Str) = none := by rfl
/-- the tuple at t is the game g -/
def GAt (H : Hp) (t : Addr) (g : Gm) : Prop := ∃ a b, H t = some (.tup [.ref a, .ref b]) ∧ H a = some (.tup (g.1.map V.int)) ∧ H b = some (.tup (g.2.map V.int))
structure BookAt (c : Cn) (H : Hp) (b : Addr) (M : Addr → Prop) (gs : List Gm) (ds : List Int) : Prop where
  ok : GOk gs
  dok : DOk gs ds
  ex : ∃ (dx mv nm dp : Addr) (ts : List Addr) (xs : List NX), H b = some (.ins c.cBook dx (bookFs mv nm dp)) ∧ H mv = some (.lst (ts.map V.ref)) ∧ Paired (GAt H) ts gs ∧
    NdAt c.P c.w H nm xs ∧ xs.length = gs.length ∧ (∀ g : Gm, nval xs (gkey g) = if g ∈ gs then some (V.int (gs.idxOf g)) else none) ∧ H dp = some (.lst (ds.map V.int)) ∧
    M mv ∧ M nm ∧ M dp ∧ mv ≠ dp ∧ ∀ x, M x → x = mv ∨ x = nm ∨ x = dp
theorem BookAt.ins_ {c : Cn} {H : Hp} {b : Addr} {M : Addr → Prop} {gs : List Gm} {ds : List Int} (B : BookAt c H b M gs ds) : ∃ dx mv nm dp, H b = some (.ins c.cBook dx (bookFs mv nm dp)) := by
  obtain ⟨dx, mv, nm, dp, _, _, h, _⟩ := B.ex
  exact ⟨dx, mv, nm, dp, h⟩
theorem paired_get {α β : Type} {R : α → β → Prop} : ∀ {xs : List α} {ys : List β} {i : Nat} {y : β}, Paired R xs ys → ys[i]? = some y → ∃ x, xs[i]? = some x ∧ R x y
  | _, _, _, _, .nil, h => by simp at h
  | _, _, 0, _, .cons r _, h => by simp at h; subst h; exact ⟨_, rfl, r⟩
  | _, _, i + 1, _, .cons _ t, h => by
    obtain ⟨x, h1, h2⟩ := paired_get (i := i) t (by simpa using h)
    exact ⟨x, by simpa using h1, h2⟩
theorem paired_keep {α β : Type} {R S : α → β → Prop} {xs : List α} {ys : List β} (h : Paired R xs ys) (f : ∀ a b, R a b → S a b) : Paired S xs ys := Paired.mapP h f
theorem GAt.keep {H H' : Hp} {t : Addr} {g : Gm} (h : GAt H t g) (k : ∀ b xs, H b = some (.tup xs) → H' b = some (.tup xs)) : GAt H' t g := by
  obtain ⟨a, b, h1, h2, h3⟩ := h
  exact ⟨a, b, k _ _ h1, k _ _ h2, k _ _ h3⟩
section
variable {c : Cn} {H H' : Hp} {b : Addr} {M N : Addr → Prop} {gs : List Gm} {ds : List Int}
theorem BookAt.cell (B : BookAt c H b M gs ds) {x : Addr} (h : M x) : (∃ l, H x = some (.lst l)) ∨ ∃ φ, H x = some (.ext φ) := by
  obtain ⟨dx, mv, nm, dp, ts, xs, _, h2, _, h4, _, _, h7, _, _, _, _, h8⟩ := B.ex
  rcases h8 x h with rfl | rfl | rfl
  · exact .inl ⟨_, h2⟩
  · exact .inr ⟨_, h4.here⟩
  · exact .inl ⟨_, h7⟩
theorem BookAt.new (B : BookAt c H b M gs ds) {x : Addr} (h : H x = none) : ¬ M x := fun z => by
  rcases B.cell z with ⟨_, e⟩ | ⟨_, e⟩ <;> rw [h] at e <;> cases e
theorem BookAt.tupN (B : BookAt c H b M gs ds) {x : Addr} {l : List V} (h : H x = some (.tup l)) : ¬ M x := fun z => by
  rcases B.cell z with ⟨_, e⟩ | ⟨_, e⟩ <;> rw [h] at e <;> cases e
theorem BookAt.insN (B : BookAt c H b M gs ds) {x C dx : Addr} {l : List (Str × V)} (h : H x = some (.ins C dx l)) : ¬ M x := fun z => by
  rcases B.cell z with ⟨_, e⟩ | ⟨_, e⟩ <;> rw [h] at e <;> cases e
theorem BookAt.keep (B : BookAt c H b M gs ds) (k : Keep N H H') (n : ∀ x, N x → ∃ l, H x = some (.lst l)) (d : ∀ x, M x → ¬ N x) : BookAt c H' b M gs ds := by
  obtain ⟨dx, mv, nm, dp, ts, xs, h1, h2, h3, h4, h5, h6, h7, m1, m2, m3, ne, h8⟩ := B.ex
  have kt : ∀ q ys, H q = some (.tup ys) → H' q = some (.tup ys) := fun q ys e => k _ _ (fun z => by obtain ⟨l, e'⟩ := n q z; rw [e] at e'; cases e') e
  refine ⟨B.ok, B.dok, dx, mv, nm, dp, ts, xs, k _ _ (fun z => ?_) h1, k _ _ (d _ m1) h2, paired_keep h3 fun t g q => q.keep kt, ⟨k _ _ (d _ m2) h4.here, fun x hx => ⟨NkV.keeps kt _ _ (h4.keys x hx).1, (h4.keys x hx).2⟩⟩, h5, h6, k _ _ (d _ m3) h7, m1, m2, m3, ne, h8⟩
  obtain ⟨l, e'⟩ := n b z; rw [h1] at e'; cases e'
theorem BookAt.same (B : BookAt c H b M gs ds) (k : Keep Nil H H') : BookAt c H' b M gs ds := B.keep k (fun _ z => z.elim) fun _ _ z => z
theorem BookAt.pos (B : BookAt c H b M gs ds) : 0 < gs.length := by
  have := B.ok.zero
  exact (List.getElem?_eq_some_iff.mp this).1
end
local macro_rules | `(tactic| kaf_suf) => `(tactic| first
  | ((with_reducible refine' r_kfld ?a (Txt.cl_Book (by assumption)) (Txt.na_Book_moves (by assumption)) bookFs_moves ?_); (case a => (kaf_pre; done)))
  | ((with_reducible refine' r_kfld ?a (Txt.cl_Book (by assumption)) (Txt.na_Book_numbers (by assumption)) bookFs_numbers ?_); (case a => (kaf_pre; done)))
  | ((with_reducible refine' r_kfld ?a (Txt.cl_Book (by assumption)) (Txt.na_Book_depths (by assumption)) bookFs_depths ?_); (case a => (kaf_pre; done)))
  | ((with_reducible refine' r_kmeth ?a ?b ?_); (case a => (kaf_pre; done)); (case b => (first | exact bookFs_need | exact bookFs_game | exact bookFs_lefts | exact bookFs_rights | exact bookFs_depth | exact bookFs_many))))

/-- what is a game's number, what is none -/
def GoodV (n : Nat) (v : V) : Prop := ∃ i : Int, v = .int i ∧ 0 ≤ i ∧ i < n
inductive BadV (H : Hp) (n : Nat) : V → Prop
  | int {i : Int} : (i < 0 ∨ (n : Int) ≤ i) → BadV H n (.int i)
  | bl (b : Bool) : BadV H n (.bl b)
  | non : BadV H n .non
  | str (s : Str) : BadV H n (.str s)
  | lst {a : Addr} {xs : List V} : H a = some (.lst xs) → BadV H n (.ref a)
  | tup {a : Addr} {xs : List V} : H a = some (.tup xs) → BadV H n (.ref a)
  | dic {a : Addr} {kvs : List (L2.Key × V)} : H a = some (.dK kvs) → BadV H n (.ref a)
theorem BadV.keep {H H' : Hp} {n : Nat} {v : V} (b : BadV H n v) (k : Keep Nil H H') : BadV H' n v := by
  cases b with
  | int h => exact .int h
  | bl b => exact .bl b
  | non => exact .non
  | str s => exact .str s
  | lst h => exact .lst (k.get (fun z => z) h)
  | tup h => exact .tup (k.get (fun z => z) h)
  | dic h => exact .dic (k.get (fun z => z) h)
theorem GoodV.not {H : Hp} {n : Nat} {v : V} (g : GoodV n v) (b : BadV H n v) : False := by
  obtain ⟨i, rfl, h0, h1⟩ := g
  cases b with
  | int h => omega
abbrev N_Book_need : List Str := ["self", "g"]
theorem sc_Book_need : FnScope N_Book_need ["self", "g"] (defScope s_Book_need) := ⟨rfl, rfl, rfl, by decide +kernel, rfl, by decide +kernel, by decide +kernel⟩
def t_Book_need (c : Cn) (E : XK) : TS :=
  (tIfS (tOr (tNot (tTru c.K (tCB (rIsi c.K) (tCons (tVar 1) (tCons (tC (.ty "int")) tNil))))) (tOr (tTru c.K (tCB (rIsi c.K) (tCons (tVar 1) (tCons (tC (.ty "bool")) tNil)))) (tOr (tTest (tOp (cLt c.K) (tVar 1) (tC (.int 0)))) (tTest (tOp cGe (tVar 1) (tCB (kLen c.K) (tCons (tFld c.K (tVar 0) "moves") tNil)))))))
  (tRaiseC c.cNoGame (fun cls d _ H => E cls d H))
  tNext)
def sp_Book_need (c : Cn) : Sp := fun vs H Q E => vs.length = 2 ∧ ∃ (b : Addr) (M : Addr → Prop) (gs : List Gm) (ds : List Int) (g : Int), vs = [.ref b, .int g] ∧ BookAt c H b M gs ds ∧ 0 ≤ g ∧ g < gs.length ∧ Q .non H
theorem p_Book_need {c : Cn} {mg : Str → Option Value} (T : Txt c mg) {vs : List V} {H : Hp} {Q : VK} {E : XK} (h : sp_Book_need c vs H Q E) : t_Book_need c E { nx := fun _ H' => Q .non H', rt := Q } (start N_Book_need vs) H := by
  obtain ⟨_, b, M, gs, ds, g, rfl, B, g0, g1, k⟩ := h
  obtain ⟨dx, mv, nm, dp, ts, xs, h1, h2, h3, h4, h5, h6, h7, m1, m2, m3, ne, h8⟩ := B.ex
  have hl : ((ts.map V.ref).length : Int) = gs.length := by rw [List.length_map, Paired.length h3]
  unfold t_Book_need
  repeat kaf_suf
  exact k
def sy_Book_need (c : Cn) : Sp := fun vs H Q E => vs.length = 2 ∧ ∃ (b : Addr) (M : Addr → Prop) (gs : List Gm) (ds : List Int) (v : V), vs = [.ref b, v] ∧ BookAt c H b M gs ds ∧ BadV H gs.length v ∧ E (.ref c.cNoGame) none H
theorem q_Book_need {c : Cn} {mg : Str → Option Value} (T : Txt c mg) {vs : List V} {H : Hp} {Q : VK} {E : XK} (h : sy_Book_need c vs H Q E) : t_Book_need c E { nx := fun _ H' => Q .non H', rt := Q } (start N_Book_need vs) H := by
  obtain ⟨_, b, M, gs, ds, v, rfl, B, bad, k⟩ := h
  obtain ⟨dx, mv, nm, dp, ts, xs, h1, h2, h3, h4, h5, h6, h7, m1, m2, m3, ne, h8⟩ := B.ex
  have hl : ((ts.map V.ref).length : Int) = gs.length := by rw [List.length_map, Paired.length h3]
  unfold t_Book_need
  have out : tRaiseC c.cNoGame (fun cls d _ H => E cls d H) { nx := fun _ H' => Q .non H', rt := Q } (start N_Book_need [V.ref b, v]) H := r_raiseC k
  cases bad with
  | @int i h =>
    by_cases lo : i < 0
    · (repeat kaf_suf)
      exact out
    · (repeat kaf_suf)
      exact out
  | bl b => (repeat kaf_suf); exact out
  | non => (repeat kaf_suf); exact out
  | str s => (repeat kaf_suf); exact out
  | lst h => (repeat kaf_suf); exact out
  | tup h => (repeat kaf_suf); exact out
  | dic h =>
    (repeat kaf_suf)
    refine v_isi (.ty "int") (.base (.dK h)) (kit_ty kit_dict_int) ?_
    (repeat kaf_suf)
    exact out
def sx_Book_need (c : Cn) : Sp := fun vs H Q E => vs.length = 2 ∧ (sp_Book_need c vs H Q E ∨ sy_Book_need c vs H Q E)
theorem metx_Book_need {c : Cn} {mg : Str → Option Value} {base : Heap} (T : Txt c mg) : Met c.P c.w c.K mg base (L2.CX c.P c.w) 1 c.cBook "need" (sx_Book_need c) := by
  obtain ⟨f, fd, F, g, b⟩ := T.F_Book_need
  exact ⟨f, fd, ["self", "g"], T.cl_Book, g, F.okX (k := 0) (N := N_Book_need) sc_Book_need (fun vs H Q E h => h.1) (fun cdv A outer s H vs Q E hr h => ⟨t_Book_need c E, by
  exact (pss_one (ps_if (PW.pt (pw_or (pt_not (p_tru (pe_callB k_isi (by rfl) T.n_isinstance (by decide +kernel) (pa_cons (pv 1) (pa_cons (pe_bltn rfl T.n_int (by decide +kernel) rfl) pa_nil))))) (pw_or (p_tru (pe_callB k_isi (by rfl) T.n_isinstance (by decide +kernel) (pa_cons (pv 1) (pa_cons (pe_bltn rfl T.n_bool (by decide +kernel) rfl) pa_nil)))) (pw_or (pt_cmpR (o_lt (hu64 hr)) (pv 1) pe_int (nomark _)) (pw_or1 (pt_cmpR o_ge (pv 1) (pe_callB k_len (by rfl) T.n_len (by decide +kernel) (pa_cons (pe_fld (pv 0) rfl) pa_nil)) (nomark _))))))) (pss_one (ps_raiseC rfl (takes_of rfl rfl rfl rfl) T.x_NoGame rfl)) pss_nil)), h.2.elim (p_Book_need T) (q_Book_need T)⟩), b⟩
theorem met_Book_need {c : Cn} {mg : Str → Option Value} {base : Heap} (T : Txt c mg) : Met c.P c.w c.K mg base (L2.CX c.P c.w) 1 c.cBook "need" (sp_Book_need c) := by
  obtain ⟨f, fd, ps, cl, m, F, b⟩ := (metx_Book_need T).ex
  exact ⟨⟨f, fd, ps, cl, m, F.imp fun vs H Q E h => ⟨h.1, .inl h⟩, b⟩⟩
/-! the games behind a putting -/
def addG (gs : List Gm) (k : Gm) : List Gm := if k ∈ gs then gs else gs ++ [k]
def ixG (gs : List Gm) (k : Gm) : Nat := gs.idxOf k
theorem nk_nums {H : Hp} : ∀ (l : List Int), NkVs H (l.map .num) (l.map V.int)
  | [] => by simp [NkVs]
  | x :: r => by
    simp only [List.map_cons, NkVs]
    exact ⟨_, _, rfl, by simp [NkV], nk_nums r⟩
theorem GAt.nk {H : Hp} {t : Addr} {g : Gm} (h : GAt H t g) : NkV H (gkey g) (.ref t) := by
  obtain ⟨a, b, h1, h2, h3⟩ := h
  unfold gkey
  simp only [NkV]
  refine ⟨t, _, rfl, h1, ?_⟩
  simp only [NkVs, NkV]
  exact ⟨_, _, rfl, ⟨a, _, rfl, h2, nk_nums _⟩, _, _, rfl, ⟨b, _, rfl, h3, nk_nums _⟩, rfl⟩
theorem dep_nums : ∀ (l : List Int), NestedKey.depthAll (l.map .num) ≤ 0
  | [] => by simp [NestedKey.depthAll]
  | x :: r => by
    have := dep_nums r
    simp only [List.map_cons, NestedKey.depthAll, NestedKey.depth]; omega
theorem gkey_depth (g : Gm) : (gkey g).depth ≤ 8 := by
  have h1 := dep_nums g.1
  have h2 := dep_nums g.2
  unfold gkey
  simp only [NestedKey.depth, NestedKey.depthAll]; omega
theorem nd_neL {P : Program} {w : World} {H : Hp} {a x : Addr} {xs : List NX} {l : List V} (N : NdAt P w H a xs) (h : H x = some (.lst l)) : x ≠ a := fun z => by
  rw [z, N.here] at h; unfold NdO at h; cases Option.some.inj h
theorem nd_neT {P : Program} {w : World} {H : Hp} {a x : Addr} {xs : List NX} {l : List V} (N : NdAt P w H a xs) (h : H x = some (.tup l)) : x ≠ a := fun z => by
  rw [z, N.here] at h; unfold NdO at h; cases Option.some.inj h
theorem nd_neI {P : Program} {w : World} {H : Hp} {a x C dx : Addr} {xs : List NX} {l : List (Str × V)} (N : NdAt P w H a xs) (h : H x = some (.ins C dx l)) : x ≠ a := fun z => by
  rw [z, N.here] at h; unfold NdO at h; cases Option.some.inj h
theorem lt_ne {H : Hp} {a x : Addr} {l m : List V} (N : H a = some (.lst m)) (h : H x = some (.tup l)) : x ≠ a := fun z => by
  rw [z, N] at h; cases h
theorem li_ne {H : Hp} {a x C dx : Addr} {l : List (Str × V)} {m : List V} (N : H a = some (.lst m)) (h : H x = some (.ins C dx l)) : x ≠ a := fun z => by
  rw [z, N] at h; cases h
theorem nput_new {xs : List NX} {k : NestedKey} {a : Addr} {v : V} (h : nval xs k = none) : nput xs k a v = xs ++ [(k, a, v)] := by
  unfold nput; rw [h]; rfl
theorem nval_snoc {xs : List NX} {k k' : NestedKey} {a : Addr} {v : V} : nval (xs ++ [(k, a, v)]) k' = (nval xs k').or (if k = k' then some v else none) := by
  unfold nval
  rw [List.find?_append]
  cases e : xs.find? fun x => decide (x.1 = k') with
  | some q => simp
  | none =>
    by_cases h : k = k'
    · simp [h]
    · simp [h]
theorem v_ninN {P : Program} {w : World} {K : PySem.W.Frag} {H : Hp} {Q : VK} {p a : Addr} {k : NestedKey} {xs : List NX} (N : NdAt P w H a xs) (kp : NkV H k (.ref p)) (d : k.depth ≤ 8) (q : Q (.bl (!(nval xs k).isSome)) H) : cNotIn P w K (.ref p) (.ref a) H Q := by
  refine .inr (.inr (.inr (.inr ⟨a, p, k, xs, rfl, rfl, N, kp, d, ?_⟩)))
  simpa using q
theorem v_inN {P : Program} {w : World} {K : PySem.W.Frag} {H : Hp} {Q : VK} {p a : Addr} {k : NestedKey} {xs : List NX} (N : NdAt P w H a xs) (kp : NkV H k (.ref p)) (d : k.depth ≤ 8) (q : Q (.bl (nval xs k).isSome) H) : cIn P w K (.ref p) (.ref a) H Q := by
  refine .inr (.inr (.inr (.inr ⟨a, p, k, xs, rfl, rfl, N, kp, d, ?_⟩)))
  simpa using q
theorem v_ixN {P : Program} {w : World} {K : PySem.W.Frag} {H : Hp} {Q : VK} {p a : Addr} {k : NestedKey} {xs : List NX} {v : V} (N : NdAt P w H a xs) (kp : NkV H k (.ref p)) (d : k.depth ≤ 8) (e : nval xs k = some v) (q : Q v H) : bIx P w K (.ref a) (.ref p) H Q :=
  .inr (.inr (.inr (.inr ⟨a, p, k, xs, v, rfl, rfl, N, kp, d, e, q⟩)))
theorem v_setN {P : Program} {w : World} {H : Hp} {Q : Hp → Prop} {p a : Addr} {k : NestedKey} {xs : List NX} {v : V} (N : NdAt P w H a xs) (kp : NkV H k (.ref p)) (d : k.depth ≤ 8) (l : xs.length < sizeLine) (q : Q (upd H a (NdO P w a (nput xs k p v)))) : bSet P w (.ref a) (.ref p) v H Q :=
  .inr (.inr ⟨a, p, k, xs, rfl, rfl, N, kp, d, l, q⟩)
theorem GOk.add {gs : List Gm} (o : GOk gs) {ls rs : List Int} (h : ∀ m ∈ ls ++ rs, 0 ≤ m ∧ m < gs.length) : GOk (addG gs (canon ls, canon rs)) := by
  unfold addG
  split
  · exact o
  · rename_i ni
    have pos : 0 < gs.length := (List.getElem?_eq_some_iff.mp o.zero).1
    refine ⟨?_, ?_, fun g hg => ?_, fun i g hi m hm => ?_⟩
    · rw [List.getElem?_append_left pos]; exact o.zero
    · refine List.nodup_append.mpr ⟨o.nd, by simp, fun a ha b hb => ?_⟩
      cases List.mem_singleton.mp hb
      exact fun z => ni (z ▸ ha)
    · rcases List.mem_append.mp hg with hg | hg
      · exact o.up g hg
      · cases List.mem_singleton.mp hg
        exact ⟨canon_up _, canon_up _⟩
    · by_cases lt : i < gs.length
      · rw [List.getElem?_append_left lt] at hi
        exact o.low i g hi m hm
      · have hl := (List.getElem?_eq_some_iff.mp hi).1
        have e : i = gs.length := by rw [List.length_append] at hl; simp at hl; omega
        subst e
        rw [List.getElem?_append_right (Nat.le_refl _)] at hi
        simp at hi
        subst hi
        rw [List.mem_append, canon_mem, canon_mem, ← List.mem_append] at hm
        exact h m hm
theorem DOk.add {gs : List Gm} {ds : List Int} (d : DOk gs ds) (o : GOk gs) {k : Gm} (h : ∀ m ∈ k.1 ++ k.2, 0 ≤ m ∧ m < gs.length) (ne : k.1 ++ k.2 ≠ []) {m : Int} (hm : m ∈ dps ds (k.1 ++ k.2)) (hx : ∀ x ∈ dps ds (k.1 ++ k.2), x ≤ m) : DOk (gs ++ [k]) (ds ++ [1 + m]) := by
  refine ⟨by simp [d.len], fun i g e hg he => ?_⟩
  by_cases lt : i < gs.length
  · rw [List.getElem?_append_left lt] at hg
    rw [List.getElem?_append_left (by rw [d.len]; exact lt)] at he
    have b : ∀ m ∈ g.1 ++ g.2, 0 ≤ m ∧ m < ds.length := fun m hm => by have := o.low i g hg m hm; rw [d.len]; omega
    unfold deepest
    rw [dps_more b]
    exact d.at_ i g e hg he
  · have hl := (List.getElem?_eq_some_iff.mp hg).1
    have e : i = gs.length := by rw [List.length_append] at hl; simp at hl; omega
    subst e
    rw [List.getElem?_append_right (Nat.le_refl _)] at hg
    rw [← d.len, List.getElem?_append_right (Nat.le_refl _)] at he
    simp at hg he
    subst hg he
    unfold deepest
    rw [dps_more (by rw [d.len]; exact h)]
    exact ⟨fun z => absurd z ne, fun x q => by have := hx x q; omega, fun _ => ⟨m, hm, by omega⟩⟩
theorem ixG_get {gs : List Gm} {k : Gm} (h : k ∈ gs) : gs[ixG gs k]? = some k := by
  have l := List.idxOf_lt_length_of_mem h
  rw [ixG, List.getElem?_eq_getElem l, List.getElem_idxOf l]
theorem addG_mem (gs : List Gm) (k : Gm) : k ∈ addG gs k := by
  unfold addG; split
  · assumption
  · simp
theorem addG_len {gs : List Gm} {k : Gm} : (addG gs k).length ≤ gs.length + 1 ∧ gs.length ≤ (addG gs k).length := by
  unfold addG; split <;> simp
theorem addG_get {gs : List Gm} {k g : Gm} {i : Nat} (h : gs[i]? = some g) : (addG gs k)[i]? = some g := by
  unfold addG; split
  · exact h
  · rw [List.getElem?_append_left (List.getElem?_eq_some_iff.mp h).1]; exact h
abbrev N_Book_game : List Str := ["self", "lefts", "rights", "g", "key"]
theorem sc_Book_game : FnScope N_Book_game ["self", "lefts", "rights"] (defScope s_Book_game) := ⟨rfl, rfl, rfl, by decide +kernel, rfl, by decide +kernel, by decide +kernel⟩
def t_Book_game (c : Cn) (E : XK) : TS :=
  (tSeq (tFor (iAny c.K (tOp (bAdd c.K) (tCB (kList c.K) (tCons (tVar 1) tNil)) (tCB (kList c.K) (tCons (tVar 2) tNil)))) (gName 3)
  (tDrop (tMeth c.cBook "need" (sx_Book_need c) [] E (tVar 0) (tCons (tVar 3) tNil))))
  (tSeq (tAsg (tTup (tCons (tCB (kTuple c.K) (tCons (tCB (kSorted c.K c.w) (tCons (tCB (uSetI c.K c.w) (tCons (tVar 1) tNil)) tNil)) tNil)) (tCons (tCB (kTuple c.K) (tCons (tCB (kSorted c.K c.w) (tCons (tCB (uSetI c.K c.w) (tCons (tVar 2) tNil)) tNil)) tNil)) tNil))) (gName 4))
  (C8.tCut (tIfS (tTest (tOp (cNotIn c.P c.w c.K) (tVar 4) (tFld c.K (tVar 0) "numbers")))
  (tSeq (tAsg (tCB (kLen c.K) (tCons (tFld c.K (tVar 0) "moves") tNil)) (gSub (tFld c.K (tVar 0) "numbers") (tVar 4) (bSet c.P c.w)))
  (tSeq (tDrop (tBM c.K "list" rAppend (tFld c.K (tVar 0) "moves") (tCons (tVar 4) tNil)))
  (tDrop (tBM c.K "list" rAppend (tFld c.K (tVar 0) "depths") (tCons (tOp (bAdd c.K) (tC (.int 1)) (tCB (kMax c.K) (tCons (tLc (iAny c.K (tOp (bAdd c.K) (tOp (bIx c.P c.w c.K) (tVar 4) (tC (.int 0))) (tOp (bIx c.P c.w c.K) (tVar 4) (tC (.int 1))))) (gName 3) tYes (tOp (bIx c.P c.w c.K) (tFld c.K (tVar 0) "depths") (tVar 3)) [3]) tNil))) tNil)))))
  tNext)
  (tRet (tOp (bIx c.P c.w c.K) (tFld c.K (tVar 0) "numbers") (tVar 4))))))
def sp_Book_game (c : Cn) : Sp := fun vs H Q E => vs.length = 3 ∧ ∃ (b l r : Addr) (M : Addr → Prop) (gs : List Gm) (ds ls rs : List Int), vs = [.ref b, .ref l, .ref r] ∧ BookAt c H b M gs ds ∧ H l = some (.lst (ls.map V.int)) ∧ H r = some (.lst (rs.map V.int)) ∧ ¬ M l ∧ ¬ M r ∧
  gs.length ≤ 90000 ∧ ls.length ≤ 4000 ∧ rs.length ≤ 4000 ∧ (∀ m ∈ ls ++ rs, 0 ≤ m ∧ m < gs.length) ∧
  ∀ (H' : Hp) (e : List Int), Keep M H H' → BookAt c H' b M (addG gs (canon ls, canon rs)) (ds ++ e) → Q (.int (ixG (addG gs (canon ls, canon rs)) (canon ls, canon rs))) H'
theorem p_Book_game {c : Cn} {mg : Str → Option Value} (T : Txt c mg) {vs : List V} {H : Hp} {Q : VK} {E : XK} (h : sp_Book_game c vs H Q E) : t_Book_game c E { nx := fun _ H' => Q .non H', rt := Q } (start N_Book_game vs) H := by
  obtain ⟨_, b, l, r, M, gs, ds, ls, rs, rfl, B, hl, hr, nl, nr, fw1, fw2, fw3, low, k⟩ := h
  unfold t_Book_game
  repeat kaf_suf
  intro p1 hp1
  repeat kaf_suf
  intro p2 hp2
  repeat kaf_suf
  intro p3 hp3
  repeat kaf_suf
  have kp3 : Keep Nil H (upd (upd (upd H p1 (.lst (ls.map V.int))) p2 (.lst (rs.map V.int))) p3 (.lst (ls.map V.int ++ rs.map V.int))) := ((Keep.alloc hp1).new hp2).new hp3
  have B3 := B.same kp3
  have hl3 := kp3.get (fun z => z) hl
  have hr3 := kp3.get (fun z => z) hr
  have h3 : upd (upd (upd H p1 (.lst (ls.map V.int))) p2 (.lst (rs.map V.int))) p3 (.lst (ls.map V.int ++ rs.map V.int)) p3 = some (.lst (ls.map V.int ++ rs.map V.int)) := upd_same
  generalize hH3 : upd (upd (upd H p1 (.lst (ls.map V.int))) p2 (.lst (rs.map V.int))) p3 (.lst (ls.map V.int ++ rs.map V.int)) = H3 at kp3 B3 hl3 hr3 h3 ⊢
  refine for_list (xs := ls.map V.int ++ rs.map V.int) (fun i σ H' => H' = H3 ∧ ∃ y, σ = [some (.ref b), some (.ref l), some (.ref r), y, none]) ⟨rfl, _, rfl⟩ ?_ ?_ ?_
  · rintro i σ H' hi ⟨rfl, y, rfl⟩; exact SqL.of h3
  · rintro i x σ H' hi ⟨rfl, y, rfl⟩
    obtain ⟨m, hm, rfl⟩ : ∃ m ∈ ls ++ rs, V.int m = x := by
      rw [← List.map_append] at hi
      have := List.mem_of_getElem? hi
      exact List.mem_map.mp this
    obtain ⟨hm0, hm1⟩ := low m hm
    obtain ⟨dx, mv, nm, dp, hb3⟩ := B3.ins_
    repeat kaf_suf
    refine ⟨rfl, .inl ⟨rfl, b, M, gs, ds, m, rfl, B3, hm0, hm1, ?_⟩⟩
    repeat kaf_suf
    exact ⟨rfl, _, rfl⟩
  · rintro σ H' ⟨rfl, y, rfl⟩
    have w1 : ls.length ≤ 4000 := by omega
    have w2 : rs.length ≤ 4000 := by omega
    repeat kaf_suf
    intro p4 c4 hp4 _
    repeat kaf_suf
    intro ns4 p5 u4 m4 _ hp5
    repeat kaf_suf
    intro p6 hp6
    repeat kaf_suf
    intro p7 c7 hp7 _
    repeat kaf_suf
    intro ns7 p8 u7 m7 _ hp8
    repeat kaf_suf
    intro p9 hp9
    repeat kaf_suf
    intro t ht
    repeat kaf_suf
    obtain rfl : ns4 = canon ls := canon_eq u4 (by simpa using m4)
    obtain rfl : ns7 = canon rs := canon_eq u7 (by simpa using m7)
    refine absS (S := fun HT => Keep Nil H HT ∧ GAt HT t (canon ls, canon rs)) ⟨?_, p6, p9, upd_same, by kaf_pre, by kaf_pre⟩ fun HT ⟨kT, gT⟩ => ?_
    · exact (((((((kp3.new hp4).new hp5).new hp6).new hp7).new hp8).new hp9).new ht)
    have BT := B.same kT
    obtain ⟨dx, mv, nm, dp, ts, xs, h1, h2, h3, h4, h5, h6, h7, m1, m2, m3, ne, h8⟩ := BT.ex
    have hlen := BT.dok.len
    have htl := Paired.length h3
    have hv := h6 (canon ls, canon rs)
    refine ⟨fun σ' H2 => ∃ y e, σ' = [some (.ref b), some (.ref l), some (.ref r), y, some (.ref t)] ∧ Keep M H H2 ∧ BookAt c H2 b M (addG gs (canon ls, canon rs)) (ds ++ e) ∧ GAt H2 t (canon ls, canon rs), ?_, ?_⟩
    · repeat kaf_suf
      refine v_ninN h4 gT.nk (gkey_depth _) ?_
      by_cases hin : (canon ls, canon rs) ∈ gs
      · rw [hv, if_pos hin]
        repeat kaf_suf
        exact ⟨_, [], rfl, kT.weak, by rw [List.append_nil, addG, if_pos hin]; exact BT, gT⟩
      · rw [hv, if_neg hin]
        rw [if_neg hin] at hv
        refine r_kB (r_ite_nf ?_)
        repeat kaf_suf
        have e1 := nd_neL h4 h2
        have e2 := nd_neL h4 h7
        have e3 := nd_neI h4 h1
        have e4 := li_ne h2 h1
        have e5 := li_ne h7 h1
        obtain ⟨ka, kb, t1, t2, t3⟩ := id gT
        have ea1 := nd_neT h4 t1
        have ea2 := lt_ne h2 t1
        have ea3 := lt_ne h7 t1
        have eb1 := nd_neT h4 t2
        have eb2 := lt_ne h2 t2
        have eb3 := lt_ne h7 t2
        have ec1 := nd_neT h4 t3
        have ec2 := lt_ne h2 t3
        have ec3 := lt_ne h7 t3
        refine v_setN h4 gT.nk (gkey_depth _) (few1 (by omega)) ?_
        rw [nput_new hv]
        repeat kaf_suf
        have g1 := canon_len' ls
        have g2 := canon_len' rs
        intro p H' hp' kp'
        repeat kaf_suf
        intro D hD
        have hall : ∀ m ∈ canon ls ++ canon rs, 0 ≤ m ∧ m < gs.length := fun m hm => low m (by rw [List.mem_append, canon_mem, canon_mem, ← List.mem_append] at hm; exact hm)
        have hDp : H' dp = some (.lst (ds.map V.int)) := by kaf_pre
        have hlen2 : (dps ds (canon ls ++ canon rs)).length = (canon ls ++ canon rs).length := List.length_map _
        refine lc_tup (xs := (canon ls).map V.int ++ (canon rs).map V.int) (fun i H2 => H2 D = some (.lst (((dps ds (canon ls ++ canon rs)).take i).map V.int)) ∧ Keep Nil H' H2) ⟨upd_same, Keep.alloc hD⟩ ?_ ?_ ?_
        · rintro i H2 _ ⟨_, k2⟩; exact SqT.of (by kaf_pre)
        · rintro i x H2 hi ⟨e2, k2⟩
          rw [← List.map_append, List.getElem?_map] at hi
          obtain ⟨m, hm, rfl⟩ := Option.map_eq_some_iff.mp hi
          obtain ⟨b1, b2⟩ := hall m (List.mem_of_getElem? hm)
          have hm' := (List.getElem?_eq_some_iff.mp hm).1
          rw [List.length_append] at hm'
          obtain ⟨n, rfl⟩ := Int.eq_ofNat_of_zero_le b1
          have hn : n < ds.length := by omega
          have hx : atI (ds.map V.int) (n : Int) = some (V.int ds[n]) := atI_get (n := n) (by simp [hn]) rfl
          repeat kaf_suf
          refine ⟨rfl, ?_⟩
          repeat kaf_suf
          refine ⟨_, e2, few1 (by simp; omega), ?_, k2.setN hD⟩
          rw [upd_same]
          have e : (dps ds (canon ls ++ canon rs))[i]? = some ds[n] := by
            rw [dps, List.getElem?_map, hm]; simp [hn]
          rw [List.take_succ, e]; simp
        · rintro H2 ⟨e2, k2⟩
          have e3 : H2 D = some (.lst ((dps ds (canon ls ++ canon rs)).map V.int)) := by
            rw [e2, List.take_of_length_le (by rw [hlen2]; simp)]
          repeat kaf_suf
          have ea : addG gs (canon ls, canon rs) = gs ++ [(canon ls, canon rs)] := if_neg hin
          have nee : canon ls ++ canon rs ≠ [] := fun z => by
            obtain ⟨z1, z2⟩ := List.append_eq_nil_iff.mp z
            rw [z1, z2] at hin
            exact hin (List.mem_of_getElem? B.ok.zero)
          refine v_maxL e3 (by rw [hlen2]; exact List.length_pos_iff.mpr nee) fun m hm hmax => ?_
          repeat kaf_suf
          have kf : Keep M HT (upd H2 dp (.lst (ds.map V.int ++ [V.int (1 + m)]))) := Keep.set (Keep.trans (Keep.trans (Keep.set (Keep.set Keep.refl m2) m1) kp'.weak) k2.weak) m3
          have kt : ∀ q ys, HT q = some (.tup ys) → (upd H2 dp (.lst (ds.map V.int ++ [V.int (1 + m)]))) q = some (.tup ys) := fun q ys e => kf q _ (BT.tupN e) e
          have gf := gT.keep kt
          have hnm : H' nm = some (NdO c.P c.w nm (xs ++ [(gkey (canon ls, canon rs), t, V.int ((ts.map V.ref).length : Nat))])) := kp'.get (fun z => z) (get_set e1.symm upd_same)
          refine ⟨_, [1 + m], rfl, kT.weak.trans kf, ⟨B.ok.add low, ?_, dx, mv, nm, dp, ts ++ [t], xs ++ [(gkey (canon ls, canon rs), t, V.int ((ts.map V.ref).length : Nat))], ?_, ?_, ?_, ⟨?_, ?_⟩, ?_, ?_, ?_, m1, m2, m3, ne, h8⟩, gf⟩
          · rw [ea]; exact B.dok.add B.ok hall nee hm hmax
          · kaf_pre
          · rw [List.map_append]; kaf_pre
          · rw [ea]; exact Paired.snoc (paired_keep h3 fun t g q => q.keep kt) gf
          · refine get_set ?_ (k2.get (fun z => z) hnm)
            tlg_ne
          · intro x hx
            rcases List.mem_append.mp hx with hx | hx
            · exact ⟨NkV.keeps kt _ _ (h4.keys x hx).1, (h4.keys x hx).2⟩
            · cases List.mem_singleton.mp hx
              exact ⟨gf.nk, gkey_depth _⟩
          · rw [ea]; simp [h5]
          · intro g
            rw [ea, nval_snoc, h6, List.length_map, htl]
            by_cases hg : g ∈ gs
            · rw [if_pos hg, if_pos (List.mem_append_left _ hg), List.idxOf_append, if_pos hg]; rfl
            · rw [if_neg hg]
              by_cases e : g = (canon ls, canon rs)
              · subst e
                rw [if_pos rfl, if_pos (List.mem_append_right _ List.mem_cons_self), List.idxOf_append, if_neg hg]
                simp
              · rw [if_neg (fun z => e (gkey_inj z).symm), if_neg (by simp [hg, e])]; rfl
          · rw [List.map_append]; exact upd_same
    · rintro σ' H2 ⟨y', e, rfl, k2, B2, g2⟩
      obtain ⟨dx, mv, nm, dp, ts, xs, h1, h2, h3, h4, h5, h6, h7, m1, m2, m3, ne, h8⟩ := B2.ex
      repeat kaf_suf
      refine v_ixN h4 g2.nk (gkey_depth _) ((h6 _).trans (if_pos (addG_mem _ _))) ?_
      repeat kaf_suf
      exact k H2 e k2 B2
/-- a putting with what is no game -/
def sy_Book_game (c : Cn) : Sp := fun vs H Q E => vs.length = 3 ∧ ∃ (b l r : Addr) (M : Addr → Prop) (gs : List Gm) (ds : List Int) (ls rs : List V), vs = [.ref b, .ref l, .ref r] ∧ BookAt c H b M gs ds ∧ H l = some (.lst ls) ∧ H r = some (.lst rs) ∧
  ls.length ≤ 4000 ∧ rs.length ≤ 4000 ∧ (∀ v ∈ ls ++ rs, GoodV gs.length v ∨ BadV H gs.length v) ∧ (∃ v ∈ ls ++ rs, BadV H gs.length v) ∧ ∀ H', Keep Nil H H' → E (.ref c.cNoGame) none H'
theorem q_Book_game {c : Cn} {mg : Str → Option Value} (T : Txt c mg) {vs : List V} {H : Hp} {Q : VK} {E : XK} (h : sy_Book_game c vs H Q E) : t_Book_game c E { nx := fun _ H' => Q .non H', rt := Q } (start N_Book_game vs) H := by
  obtain ⟨_, b, l, r, M, gs, ds, ls, rs, rfl, B, hl, hr, fw1, fw2, all, some_, k⟩ := h
  unfold t_Book_game
  repeat kaf_suf
  intro p1 hp1
  repeat kaf_suf
  intro p2 hp2
  repeat kaf_suf
  refine v_addL (by kaf_pre) (by kaf_pre) (few2 (by omega)) ?_
  intro p3 hp3
  repeat kaf_suf
  have kp3 : Keep Nil H (upd (upd (upd H p1 (.lst ls)) p2 (.lst rs)) p3 (.lst (ls ++ rs))) := ((Keep.alloc hp1).new hp2).new hp3
  have B3 := B.same kp3
  have h3 : upd (upd (upd H p1 (.lst ls)) p2 (.lst rs)) p3 (.lst (ls ++ rs)) p3 = some (.lst (ls ++ rs)) := upd_same
  generalize hH3 : upd (upd (upd H p1 (.lst ls)) p2 (.lst rs)) p3 (.lst (ls ++ rs)) = H3 at kp3 B3 h3 ⊢
  refine for_list (xs := ls ++ rs) (fun i σ H' => H' = H3 ∧ (∀ j v, j < i → (ls ++ rs)[j]? = some v → GoodV gs.length v) ∧ ∃ y, σ = [some (.ref b), some (.ref l), some (.ref r), y, none]) ⟨rfl, fun j v h => absurd h (Nat.not_lt_zero _), _, rfl⟩ ?_ ?_ ?_
  · rintro i σ H' hi ⟨rfl, _, y, rfl⟩; exact SqL.of h3
  · rintro i x σ H' hi ⟨rfl, gd, y, rfl⟩
    obtain ⟨dx, mv, nm, dp, hb3⟩ := B3.ins_
    repeat kaf_suf
    rcases all x (List.mem_of_getElem? hi) with g | bd
    · obtain ⟨m, rfl, hm0, hm1⟩ := id g
      refine ⟨rfl, .inl ⟨rfl, b, M, gs, ds, m, rfl, B3, hm0, hm1, ?_⟩⟩
      repeat kaf_suf
      refine ⟨rfl, fun j v hj hv => ?_, _, rfl⟩
      by_cases e : j = i
      · subst e; rw [hi] at hv; cases hv; exact g
      · exact gd j v (by omega) hv
    · exact ⟨rfl, .inr ⟨rfl, b, M, gs, ds, x, rfl, B3, bd.keep kp3, k _ kp3⟩⟩
  · rintro σ H' ⟨rfl, gd, y, rfl⟩
    obtain ⟨v, hv, bd⟩ := some_
    obtain ⟨j, hj, rfl⟩ := List.getElem_of_mem hv
    exact ((gd j _ hj (List.getElem?_eq_getElem hj)).not bd).elim
def sx_Book_game (c : Cn) : Sp := fun vs H Q E => vs.length = 3 ∧ (sp_Book_game c vs H Q E ∨ sy_Book_game c vs H Q E)
theorem metx_Book_game {c : Cn} {mg : Str → Option Value} {base : Heap} (T : Txt c mg) : Met c.P c.w c.K mg base (L2.CX c.P c.w) 2 c.cBook "game" (sx_Book_game c) := by
  obtain ⟨f, fd, F, g, b⟩ := T.F_Book_game
  exact ⟨f, fd, ["self", "lefts", "rights"], T.cl_Book, g, F.okX (k := 1) (N := N_Book_game) sc_Book_game (fun vs H Q E h => h.1) (fun cdv A outer s H vs Q E hr h => ⟨t_Book_game c E, by
  exact (pss_cons (ps_for (passes_of rfl) rfl (pi_any (pe_op o_add (pe_callTy (k_list rfl) (by rfl) T.n_list (by decide +kernel) (pa_cons (pv 1) pa_nil)) (pe_callTy (k_list rfl) (by rfl) T.n_list (by decide +kernel) (pa_cons (pv 2) pa_nil)))) (pg_name (i := 3) sc_Book_game.nd rfl (Or.inl rfl))
  (pss_one (ps_expr (e_meth (metx_Book_need T) hr (by decide) (passes_call (takes_of rfl rfl rfl rfl) fun _ _ _ _ z => z) (pv 0) (pa_cons (pv 3) pa_nil)))))
  (pss_cons (ps_set (i := 4) sc_Book_game.nd rfl (Or.inl rfl) (pe_tup (pa_cons (pe_callTy k_tuple (by rfl) T.n_tuple (by decide +kernel) (pa_cons (pe_callB (k_sorted rfl) (by rfl) T.n_sorted (by decide +kernel) (pa_cons (pe_callTy (k_set rfl) (by rfl) T.n_set (by decide +kernel) (pa_cons (pv 1) pa_nil)) pa_nil)) pa_nil)) (pa_cons (pe_callTy k_tuple (by rfl) T.n_tuple (by decide +kernel) (pa_cons (pe_callB (k_sorted rfl) (by rfl) T.n_sorted (by decide +kernel) (pa_cons (pe_callTy (k_set rfl) (by rfl) T.n_set (by decide +kernel) (pa_cons (pv 2) pa_nil)) pa_nil)) pa_nil)) pa_nil))))
  (C8.pss_cut (ps_if (pt_cmpR (o_notin (hu65 hr)) (pv 4) (pe_fld (pv 0) rfl) (by rfl)) (pss_cons (ps_asg (pe_callB k_len (by rfl) T.n_len (by decide +kernel) (pa_cons (pe_fld (pv 0) rfl) pa_nil)) (pg_sub (pe_fld (pv 0) rfl) (pv 4) (s_set (hu64 hr))))
  (pss_cons (ps_expr (pe_bm PySem.F.plainAttrs_list PySem.F.slot_list_append PySem.F.type_list_append mt_append (pe_fld (pv 0) rfl) (pa_cons (pv 4) pa_nil)))
  (pss_one (ps_expr (pe_bm PySem.F.plainAttrs_list PySem.F.slot_list_append PySem.F.type_list_append mt_append (pe_fld (pv 0) rfl) (pa_cons (pe_op o_add pe_int (pe_callB (k_max rfl) (by rfl) T.n_max (by decide +kernel) (pa_cons (pe_lc (own := [("g", 3)]) rfl sc_Book_game.nd (pi_any (pe_op o_add (pe_ix (x_ix (hu64 hr)) (pv 4) pe_int (fun _ _ => rfl)) (pe_ix (x_ix (hu64 hr)) (pv 4) pe_int (fun _ _ => rfl)))) (blkOk_by (own := [("g", 3)]) (N := N_Book_game) (sc := defScope s_Book_game) (by decide +kernel)) (fun _ _ _ _ _ => (pg_name (i := 3) sc_Book_game.nd rfl (Or.inl rfl))) (fun _ _ _ _ _ => pts_nil) (fun _ _ _ _ _ => (pe_ix (x_ix (hu64 hr)) (pe_fld (pv 0) rfl) (pv 3) (fun _ _ => rfl)))) pa_nil))) pa_nil)))))) pss_nil)
  (pss_one (ps_ret (pe_ix (x_ix (hu64 hr)) (pe_fld (pv 0) rfl) (pv 4) (fun _ _ => rfl))))))), h.2.elim (p_Book_game T) (q_Book_game T)⟩), b⟩
theorem met_Book_game {c : Cn} {mg : Str → Option Value} {base : Heap} (T : Txt c mg) : Met c.P c.w c.K mg base (L2.CX c.P c.w) 2 c.cBook "game" (sp_Book_game c) := by
  obtain ⟨f, fd, ps, cl, m, F, b⟩ := (metx_Book_game T).ex
  exact ⟨⟨f, fd, ps, cl, m, F.imp fun vs H Q E h => ⟨h.1, .inl h⟩, b⟩⟩
/-! the book as it is made; how many -/
theorem putF_0 {x : V} : putF ("moves" : Str) x [] = [(("moves" : Str), x)] := by rfl
theorem putF_1 {x y : V} : putF ("numbers" : Str) y [(("moves" : Str), x)] = [(("moves" : Str), x), (("numbers" : Str), y)] := by
  unfold putF; rw [if_neg (by decide)]; rfl
theorem putF_2 {x y z : V} : putF ("depths" : Str) z [(("moves" : Str), x), (("numbers" : Str), y)] = [(("moves" : Str), x), (("numbers" : Str), y), (("depths" : Str), z)] := by
  unfold putF; rw [if_neg (by decide)]; unfold putF; rw [if_neg (by decide)]; rfl
theorem GOk.one : GOk [([], [])] := ⟨rfl, by simp, fun g hg => by cases List.mem_singleton.mp hg; exact ⟨List.Pairwise.nil, List.Pairwise.nil⟩, fun i g h m hm => by
  cases i with
  | zero => simp at h; subst h; simp at hm
  | succ i => simp at h⟩
theorem DOk.one : DOk [([], [])] [0] := ⟨rfl, fun i g d h hd => by
  cases i with
  | zero => simp at h hd; subst h hd; exact ⟨fun _ => rfl, fun x hx => by simp [dps] at hx, fun z => absurd rfl z⟩
  | succ i => simp at h⟩
abbrev N_Book_init : List Str := ["self"]
theorem sc_Book_init : FnScope N_Book_init ["self"] (defScope s_Book_init) := ⟨rfl, rfl, rfl, by decide +kernel, rfl, by decide +kernel, by decide +kernel⟩
def t_Book_init (c : Cn) : TS :=
  (tSeq (sFld c.K (tVar 0) (tLst (tCons (tTup (tCons (tTup tNil) (tCons (tTup tNil) tNil))) tNil)) "moves")
  (tSeq (sFld c.K (tVar 0) (uDisp1 c.P c.w (tTup (tCons (tTup tNil) (tCons (tTup tNil) tNil))) (tC (.int 0))) "numbers")
  (sFld c.K (tVar 0) (tLst (tCons (tC (.int 0)) tNil)) "depths")))
def sp_Book_init (c : Cn) : Sp := fun vs H Q E => vs.length = 1 ∧ ∃ (b dx : Addr), vs = [.ref b] ∧ H b = some (.ins c.cBook dx []) ∧
  ∀ (H' : Hp) (M : Addr → Prop), Keep (fun x => x = b) H H' → BookAt c H' b M [([], [])] [0] → (∀ x, M x → H x = none) → Q .non H'
theorem p_Book_init {c : Cn} {mg : Str → Option Value} (T : Txt c mg) {vs : List V} {H : Hp} {Q : VK} {E : XK} (h : sp_Book_init c vs H Q E) : t_Book_init c { nx := fun _ H' => Q .non H', rt := Q } (start N_Book_init vs) H := by
  obtain ⟨_, b, dx, rfl, hb, k⟩ := h
  unfold t_Book_init
  repeat kaf_suf
  intro p1 hp1
  repeat kaf_suf
  intro p2 hp2
  repeat kaf_suf
  intro p3 hp3
  repeat kaf_suf
  intro mv hmv
  repeat kaf_suf
  refine r_ksfld (by kaf_pre) (Txt.cl_Book T) (Txt.na_Book_moves T) (by decide) ?_
  repeat kaf_suf
  intro nm hnm
  repeat kaf_suf
  intro p4 hp4
  repeat kaf_suf
  intro p5 hp5
  repeat kaf_suf
  intro t ht
  repeat kaf_suf
  have w0 : nm ≠ mv := ne_new hnm (show _ = some (HO.lst [V.ref p3]) by kaf_pre)
  have w1 : b ≠ nm := ne_old hnm upd_same
  have w2 : mv ≠ b := ne_new hmv (by kaf_pre)
  have w3 : p3 ≠ mv := ne_old hmv upd_same
  have hnm0 : H nm = none := by
    have h0 := none_of_upd hnm
    exact none_of_upd (none_of_upd (none_of_upd (none_of_upd h0)))
  have hmv0 : H mv = none := none_of_upd (none_of_upd (none_of_upd hmv))
  refine ⟨gkey ([], []), t, rfl, by kaf_pre, GAt.nk (g := ([], [])) ⟨p4, p5, by kaf_pre, by kaf_pre, by kaf_pre⟩, gkey_depth _, ?_⟩
  repeat kaf_suf
  refine r_ksfld (by kaf_pre) (Txt.cl_Book T) (Txt.na_Book_numbers T) (by rw [putF_0]; simp) ?_
  repeat kaf_suf
  intro dp hdp
  repeat kaf_suf
  refine r_ksfld (by kaf_pre) (Txt.cl_Book T) (Txt.na_Book_depths T) (by rw [putF_0, putF_1]; simp) ?_
  repeat kaf_suf
  have hdp0 : H dp = none := by
    have := hdp
    repeat (first | exact this | replace this := none_of_upd this)
  have w4 : dp ≠ mv := ne_new hdp (show _ = some (HO.lst [V.ref p3]) by kaf_pre)
  have w5 : dp ≠ nm := ne_new hdp (show _ = some (NdO c.P c.w nm [(gkey ([], []), t, V.int 0)]) by kaf_pre)
  have w6 : dp ≠ b := ne_new hdp upd_same
  have x3 : p3 ≠ nm := ne_old hnm (by kaf_pre)
  have x2 : p2 ≠ nm := ne_old hnm (by kaf_pre)
  have x1 : p1 ≠ nm := ne_old hnm (by kaf_pre)
  have y3 : p3 ≠ b := ne_new hp3 (by kaf_pre)
  have y2 : p2 ≠ b := ne_new hp2 (by kaf_pre)
  have y1 : p1 ≠ b := ne_new hp1 (by kaf_pre)
  have z4 : p4 ≠ b := ne_new hp4 (by kaf_pre)
  have z5 : p5 ≠ b := ne_new hp5 (by kaf_pre)
  have z6 : t ≠ b := ne_new ht (by kaf_pre)
  have q4 : p4 ≠ nm := ne_new hp4 upd_same
  have q5 : p5 ≠ nm := ne_new hp5 (by kaf_pre)
  have q6 : t ≠ nm := ne_new ht (by kaf_pre)
  refine absQ (S := fun H' => Keep (fun x => x = b) H H' ∧ H' b = some (.ins c.cBook dx (bookFs mv nm dp)) ∧ H' mv = some (.lst [.ref p3]) ∧ H' p3 = some (.tup [.ref p1, .ref p2]) ∧ H' p1 = some (.tup []) ∧ H' p2 = some (.tup []) ∧
    H' nm = some (NdO c.P c.w nm [(gkey ([], []), t, V.int 0)]) ∧ H' t = some (.tup [.ref p4, .ref p5]) ∧ H' p4 = some (.tup []) ∧ H' p5 = some (.tup []) ∧ H' dp = some (.lst [.int 0])) ⟨?_, ?_, ?_, ?_, ?_, ?_, ?_, ?_, ?_, ?_, ?_⟩ fun HX ⟨f0, f1, f2, f3, f4, f5, f6, f7, f8, f9, f10⟩ => ?_
  · repeat (first | exact Keep.refl | refine' Keep.set ?_ rfl | refine' Keep.new ?_ (by assumption) | refine' Keep.setN ?_ (by assumption))
  · rw [putF_0, putF_1, putF_2]; exact upd_same
  · kaf_pre
  · kaf_pre
  · kaf_pre
  · kaf_pre
  · kaf_pre
  · kaf_pre
  · kaf_pre
  · kaf_pre
  · kaf_pre
  refine k HX (fun x => x = mv ∨ x = nm ∨ x = dp) f0 ⟨GOk.one, DOk.one, dx, mv, nm, dp, [p3], [(gkey ([], []), t, V.int 0)], f1, f2, .cons ⟨p1, p2, f3, f4, f5⟩ .nil, ⟨f6, fun x hx => ?_⟩, rfl, fun g => ?_, f10, .inl rfl, .inr (.inl rfl), .inr (.inr rfl), w4.symm, fun _ h => h⟩ fun x hx => ?_
  · cases List.mem_singleton.mp hx
    exact ⟨GAt.nk (g := ([], [])) ⟨p4, p5, f7, f8, f9⟩, gkey_depth _⟩
  · by_cases e : g = ([], [])
    · subst e; rfl
    · have e' : ¬ gkey ([], []) = gkey g := fun z => e (gkey_inj z).symm
      rw [if_neg (by simpa using e)]
      simp [nval, e']
  · rcases hx with rfl | rfl | rfl <;> assumption
theorem mak_Book {c : Cn} {mg : Str → Option Value} {base : Heap} (T : Txt c mg) : Mak c.P c.w c.K mg base CX0 1 "Book" c.cBook (sp_Book_init c) := by
  obtain ⟨f, fd, F, g, b⟩ := T.F_Book_init
  exact ⟨f, fd, ["self"], g, F.ok (k := 0) (N := N_Book_init) sc_Book_init (fun vs H Q E h => h.1) (fun cdv A outer s H vs Q E hr h => ⟨t_Book_init c, by
  exact (pss_cons (ps_fld (pv 0) (pe_lst (pa_cons (pe_tup (pa_cons (pe_tup pa_nil) (pa_cons (pe_tup pa_nil) pa_nil))) pa_nil)) rfl)
  (pss_cons (ps_fld (pv 0) (pe_disp1 (hu64 hr) (pe_tup (pa_cons (pe_tup pa_nil) (pa_cons (pe_tup pa_nil) pa_nil))) pe_int) rfl)
  (pss_one (ps_fld (pv 0) (pe_lst (pa_cons pe_int pa_nil)) rfl)))), p_Book_init T h⟩), T.g_Book, b⟩

abbrev N_Book_many : List Str := ["self"]
theorem sc_Book_many : FnScope N_Book_many ["self"] (defScope s_Book_many) := ⟨rfl, rfl, rfl, by decide +kernel, rfl, by decide +kernel, by decide +kernel⟩
def t_Book_many (c : Cn) : TS :=
  (tRet (tCB (kLen c.K) (tCons (tFld c.K (tVar 0) "moves") tNil)))
def sp_Book_many (c : Cn) : Sp := fun vs H Q E => vs.length = 1 ∧ ∃ (b : Addr) (M : Addr → Prop) (gs : List Gm) (ds : List Int), vs = [.ref b] ∧ BookAt c H b M gs ds ∧ Q (.int gs.length) H
theorem p_Book_many {c : Cn} {mg : Str → Option Value} (T : Txt c mg) {vs : List V} {H : Hp} {Q : VK} {E : XK} (h : sp_Book_many c vs H Q E) : t_Book_many c { nx := fun _ H' => Q .non H', rt := Q } (start N_Book_many vs) H := by
  obtain ⟨_, b, M, gs, ds, rfl, B, k⟩ := h
  obtain ⟨dx, mv, nm, dp, ts, xs, h1, h2, h3, h4, h5, h6, h7, m1, m2, m3, ne, h8⟩ := B.ex
  unfold t_Book_many
  repeat kaf_suf
  rw [List.length_map, Paired.length h3]
  exact k
theorem met_Book_many {c : Cn} {mg : Str → Option Value} {base : Heap} (T : Txt c mg) : Met c.P c.w c.K mg base CX0 1 c.cBook "many" (sp_Book_many c) := by
  obtain ⟨f, fd, F, g, b⟩ := T.F_Book_many
  exact ⟨f, fd, ["self"], T.cl_Book, g, F.ok (k := 0) (N := N_Book_many) sc_Book_many (fun vs H Q E h => h.1) (fun cdv A outer s H vs Q E hr h => ⟨t_Book_many c, by
  exact (pss_one (ps_ret (pe_callB k_len (by rfl) T.n_len (by decide +kernel) (pa_cons (pe_fld (pv 0) rfl) pa_nil)))), p_Book_many T h⟩), b⟩

/-! rows of games: a list of pairs of lists -/
def dInts (l : List Int) : PyData := .list (l.map PyData.int)
def dRow (g : Gm) : PyData := .tuple [dInts g.1, dInts g.2]
theorem eqv_ints : ∀ ns ms : List Int, PyData.eqvAll (ns.map PyData.int) (ms.map PyData.int) = decide (ns = ms)
  | [], [] => by simp [PyData.eqvAll]
  | [], _ :: _ => by simp [PyData.eqvAll]
  | _ :: _, [] => by simp [PyData.eqvAll]
  | a :: r, b :: t => by
    simp only [List.map_cons, PyData.eqvAll, PyData.eqv, eqv_ints r t]
    by_cases h : a = b <;> by_cases h' : r = t <;> simp [h, h']
theorem eqv_dInts (a b : List Int) : PyData.eqv (dInts a) (dInts b) = decide (a = b) := by
  unfold dInts; simp only [PyData.eqv]; exact eqv_ints a b
theorem eqv_dRow (g k : Gm) : PyData.eqv (dRow g) (dRow k) = decide (g = k) := by
  have e : PyData.eqv (dRow g) (dRow k) = (PyData.eqv (dInts g.1) (dInts k.1) && (PyData.eqv (dInts g.2) (dInts k.2) && true)) := by simp only [dRow, PyData.eqv, PyData.eqvAll]
  rw [e, eqv_dInts, eqv_dInts]
  obtain ⟨a, b⟩ := g; obtain ⟨a', b'⟩ := k
  by_cases h : a = a' <;> by_cases h' : b = b' <;> simp [h, h']
theorem lay_ints : ∀ ns : List Int, PyData.canLayAll0 (ns.map PyData.int) = true
  | [] => by simp [PyData.canLayAll0]
  | _ :: r => by simp [PyData.canLayAll0, PyData.canLay0, lay_ints r]
theorem dpt_ints : ∀ ns : List Int, PyData.depthAll (ns.map PyData.int) = 0
  | [] => by simp [PyData.depthAll]
  | _ :: r => by simp [PyData.depthAll, PyData.depth, dpt_ints r]
theorem dInts_lay (l : List Int) : (dInts l).canLay0 = true := by unfold dInts; simp only [PyData.canLay0]; exact lay_ints l
theorem dInts_dep (l : List Int) : (dInts l).depth = 1 := by unfold dInts; simp only [PyData.depth, dpt_ints]
theorem dRow_lay (g : Gm) : (dRow g).canLay0 = true := by simp [dRow, PyData.canLay0, PyData.canLayAll0, dInts_lay]
theorem dRow_dep (g : Gm) : (dRow g).depth = 2 := by simp [dRow, PyData.depth, PyData.depthAll, dInts_dep]
theorem dRows_lay : ∀ gs : List Gm, PyData.canLayAll0 (gs.map dRow) = true
  | [] => by simp [PyData.canLayAll0]
  | g :: r => by simp [PyData.canLayAll0, dRow_lay g, dRows_lay r]
theorem dRows_dep : ∀ gs : List Gm, PyData.depthAll (gs.map dRow) ≤ 2
  | [] => by simp [PyData.depthAll]
  | g :: r => by
    have h1 := dRows_dep r
    have h2 := dRow_dep g
    simp only [List.map_cons, PyData.depthAll]; omega
theorem shaped_of {d : PyData} (h : d.canLay0 = true) (k : d.depth ≤ 64) : SeqAt.shaped d = true := by
  show (d.canLay0 && decide (d.depth ≤ 64)) = true
  rw [Bool.and_eq_true]
  exact ⟨h, decide_eq_true k⟩
theorem dInts_sh (l : List Int) : SeqAt.shaped (dInts l) = true := shaped_of (dInts_lay l) (by rw [dInts_dep]; omega)
theorem dRow_sh (g : Gm) : SeqAt.shaped (dRow g) = true := shaped_of (dRow_lay g) (by rw [dRow_dep]; omega)
theorem dRows_sh (gs : List Gm) : SeqAt.shaped (.list (gs.map dRow)) = true := shaped_of (by simp only [PyData.canLay0]; exact dRows_lay gs) (by have := dRows_dep gs; simp only [PyData.depth]; omega)
theorem dTwo_sh (a b : List Int) : SeqAt.shaped (.list [dInts a, dInts b]) = true := shaped_of (by simp [PyData.canLay0, PyData.canLayAll0, dInts_lay]) (by simp [PyData.depth, PyData.depthAll, dInts_dep])
theorem eqv_two (a b a' b' : List Int) : PyData.eqv (.list [dInts a, dInts b]) (.list [dInts a', dInts b']) = (decide (a = a') && decide (b = b')) := by
  simp only [PyData.eqv, PyData.eqvAll, eqv_dInts, Bool.and_true]
theorem dp_all {K : PySem.W.Frag} {H : Hp} : ∀ (l : List Int), DpAll K H (l.map V.int) (l.map PyData.int)
  | [] => .nil
  | x :: r => .cons (.int x) (dp_all r)
theorem dp_ints {K : PySem.W.Frag} {H : Hp} {a : Addr} {l : List Int} (h : H a = some (.lst (l.map V.int))) : Dp K H (.ref a) (dInts l) := .lst (SqL.of h) (dp_all l)
theorem dp_two {K : PySem.W.Frag} {H : Hp} {p a b : Addr} {l m : List Int} (h : H p = some (.lst [.ref a, .ref b])) (h1 : H a = some (.lst (l.map V.int))) (h2 : H b = some (.lst (m.map V.int))) : Dp K H (.ref p) (.list [dInts l, dInts m]) :=
  .lst (SqL.of h) (.cons (dp_ints h1) (.cons (dp_ints h2) .nil))
def RowAt (W : Addr → Prop) (H : Hp) (t : Addr) (g : Gm) : Prop := ∃ a b, H t = some (.tup [.ref a, .ref b]) ∧ H a = some (.lst (g.1.map V.int)) ∧ H b = some (.lst (g.2.map V.int)) ∧ ¬ W t ∧ ¬ W a ∧ ¬ W b
theorem RowAt.keep {W : Addr → Prop} {H H' : Hp} {t : Addr} {g : Gm} (r : RowAt W H t g) (k : Keep W H H') : RowAt W H' t g := by
  obtain ⟨a, b, h1, h2, h3, n1, n2, n3⟩ := r
  exact ⟨a, b, k _ _ n1 h1, k _ _ n2 h2, k _ _ n3 h3, n1, n2, n3⟩
theorem RowAt.dp {K : PySem.W.Frag} {W : Addr → Prop} {H : Hp} {t : Addr} {g : Gm} (r : RowAt W H t g) : Dp K H (.ref t) (dRow g) := by
  obtain ⟨a, b, h1, h2, h3, _⟩ := r
  exact .tup (SqT.of h1) (.cons (dp_ints h2) (.cons (dp_ints h3) .nil))
def RowsAt (W : Addr → Prop) (H : Hp) (R : Addr) (gs : List Gm) : Prop := ∃ ks : List Addr, H R = some (.lst (ks.map V.ref)) ∧ Paired (RowAt W H) ks gs
theorem rows_dp {K : PySem.W.Frag} {W : Addr → Prop} {H : Hp} {ks : List Addr} {gs : List Gm} (p : Paired (RowAt W H) ks gs) : DpAll K H (ks.map V.ref) (gs.map dRow) := by
  induction p with
  | nil => exact .nil
  | cons r _ ih => exact .cons r.dp ih
theorem RowsAt.dp {K : PySem.W.Frag} {W : Addr → Prop} {H : Hp} {R : Addr} {gs : List Gm} (r : RowsAt W H R gs) : Dp K H (.ref R) (.list (gs.map dRow)) := by
  obtain ⟨ks, h, p⟩ := r
  exact .lst (SqL.of h) (rows_dp p)
theorem any_row (gs : List Gm) (k : Gm) : ((gs.map dRow).any fun z => PyData.eqv z (dRow k)) = decide (k ∈ gs) := by
  rw [List.any_map]
  have e : ((fun z => PyData.eqv z (dRow k)) ∘ dRow) = fun g => decide (g = k) := by funext g; exact eqv_dRow g k
  rw [e]
  by_cases h : k ∈ gs
  · rw [decide_eq_true h]; exact List.any_eq_true.mpr ⟨k, h, by simp⟩
  · rw [decide_eq_false h]; exact List.any_eq_false.mpr fun x hx => by simp; intro z; exact h (z ▸ hx)
theorem v_ninRows {P : Program} {w : World} {K : PySem.W.Frag} {W : Addr → Prop} {H : Hp} {Q : VK} {t R : Addr} {k : Gm} {gs : List Gm} (r : RowsAt W H R gs) (h : RowAt W H t k) (q : Q (.bl (!decide (k ∈ gs))) H) : cNotIn P w K (.ref t) (.ref R) H Q :=
  .inr (.inl ⟨_, _, h.dp, r.dp, dRow_sh _, dRows_sh _, by rw [any_row]; exact q⟩)
theorem v_indexRows {K : PySem.W.Frag} {W : Addr → Prop} {H : Hp} {Q : VK} {t R : Addr} {k : Gm} {gs : List Gm} (r : RowsAt W H R gs) (h : RowAt W H t k) (m : k ∈ gs) (q : Q (.int (ixG gs k)) H) : kIndex K (.ref R) [.ref t] H Q := by
  refine .inr ⟨R, .ref t, dRow k, gs.map dRow, ixG gs k, dRow k, rfl, rfl, r.dp, h.dp, dRows_sh _, dRow_sh _, ?_, by rw [eqv_dRow]; simp, fun j z hj hz => ?_, q⟩
  · rw [List.getElem?_map, ixG_get m]; rfl
  · rw [List.getElem?_map] at hz
    obtain ⟨g, hg, rfl⟩ := Option.map_eq_some_iff.mp hz
    rw [eqv_dRow]
    refine decide_eq_false fun e => ?_
    subst e
    obtain ⟨hl, hg⟩ := List.getElem?_eq_some_iff.mp hg
    have := List.not_of_lt_findIdx (p := fun x => x == g) (xs := gs) (i := j) hj
    simp [hg] at this
theorem up_len : ∀ (l : List Int) (lo n : Int), l.Pairwise (· < ·) → (∀ x ∈ l, lo ≤ x ∧ x < n) → lo ≤ n → (l.length : Int) ≤ n - lo
  | [], lo, n, _, _, h => by simp; omega
  | x :: r, lo, n, u, b, _ => by
    have u' := List.pairwise_cons.mp u
    have bx := b x List.mem_cons_self
    have := up_len r (x + 1) n u'.2 (fun y hy => ⟨by have := u'.1 y hy; omega, (b y (List.mem_cons_of_mem _ hy)).2⟩) (by omega)
    simp only [List.length_cons]; omega
/-- the deck, the book and the rows, apart -/
def Wd (MD MB : Addr → Prop) (R : Addr) : Addr → Prop := fun x => MD x ∨ MB x ∨ x = R
structure Lv (c : Cn) (H : Hp) (d b R : Addr) (MD MB : Addr → Prop) (rs gs : List Gm) (ds : List Int) : Prop where
  D : DeckAt H d MD
  B : BookAt c H b MB gs ds
  rows : RowsAt (Wd MD MB R) H R rs
  s1 : ∀ x, MB x → ¬ MD x
  s2 : ¬ MD R
  s3 : ¬ MB R
theorem DeckAt.cell {H : Hp} {d : Addr} {M : Addr → Prop} (D : DeckAt H d M) {x : Addr} (h : M x) : ∃ l, H x = some (.lst l) := by
  obtain ⟨pl, ps, i, h1, _, h2, _, _, _, _, h3, h4⟩ := D.ex
  rcases h4 x h with rfl | rfl | hx
  · exact ⟨_, h1⟩
  · exact ⟨_, h2⟩
  · obtain ⟨_, _, _, a, b, k, e⟩ := h3 x hx
    exact ⟨_, e⟩
theorem RowsAt.keep {W : Addr → Prop} {H H' : Hp} {R : Addr} {gs : List Gm} (r : RowsAt W H R gs) (k : Keep W H H') (e : ∀ o, H R = some o → H' R = some o) : RowsAt W H' R gs := by
  obtain ⟨ks, h, p⟩ := r
  exact ⟨ks, e _ h, paired_keep p fun t g q => q.keep k⟩
section
variable {c : Cn} {H H' : Hp} {d b R : Addr} {MD MB : Addr → Prop} {rs gs : List Gm} {ds : List Int}
theorem Lv.draw (L : Lv c H d b R MD MB rs gs ds) (k : Keep MD H H') (D' : DeckAt H' d MD) : Lv c H' d b R MD MB rs gs ds :=
  ⟨D', L.B.keep k (fun _ h => L.D.cell h) L.s1, L.rows.keep (k.mono fun _ h => .inl h) fun o h => k _ _ L.s2 h, L.s1, L.s2, L.s3⟩
theorem Lv.same (L : Lv c H d b R MD MB rs gs ds) (k : Keep Nil H H') : Lv c H' d b R MD MB rs gs ds := L.draw k.weak (L.D.keep k fun _ _ z => z)
theorem Lv.game (L : Lv c H d b R MD MB rs gs ds) {gs' : List Gm} {ds' : List Int} (k : Keep MB H H') (B' : BookAt c H' b MB gs' ds') : Lv c H' d b R MD MB rs gs' ds' :=
  ⟨L.D.keep k fun x h z => L.s1 x z h, B', L.rows.keep (k.mono fun _ h => .inr (.inl h)) fun o h => k _ _ L.s3 h, L.s1, L.s2, L.s3⟩
theorem Lv.new (L : Lv c H d b R MD MB rs gs ds) {x : Addr} (h : H x = none) : ¬ Wd MD MB R x := by
  rintro (z | z | z)
  · exact L.D.new h z
  · exact L.B.new h z
  · obtain ⟨ks, e, _⟩ := L.rows
    rw [z, e] at h; cases h
theorem Lv.tupN (L : Lv c H d b R MD MB rs gs ds) {x : Addr} {l : List V} (h : H x = some (.tup l)) : ¬ Wd MD MB R x := by
  rintro (z | z | z)
  · obtain ⟨l, e⟩ := L.D.cell z; rw [h] at e; cases e
  · exact L.B.tupN h z
  · obtain ⟨ks, e, _⟩ := L.rows
    rw [z, e] at h; cases h
theorem Lv.set (L : Lv c H d b R MD MB rs gs ds) {x : Addr} {l m : List V} (h : H x = some (.lst l)) (n : ¬ Wd MD MB R x) (nr : ∀ t g, RowAt (Wd MD MB R) H t g → ∀ a b, H t = some (.tup [.ref a, .ref b]) → a ≠ x ∧ b ≠ x) : Lv c (upd H x (.lst m)) d b R MD MB rs gs ds := by
  have k : Keep (fun a => a = x) H (upd H x (.lst m)) := Keep.refl.set rfl
  obtain ⟨ks, e, p⟩ := L.rows
  refine ⟨L.D.keep k fun y h z => n (.inl (z ▸ h)), L.B.keep k (fun y z => ⟨_, z ▸ h⟩) fun y h z => n (.inr (.inl (z ▸ h))), ⟨ks, get_set (fun z => n (.inr (.inr z.symm))) e, paired_keep p fun t g q => ?_⟩, L.s1, L.s2, L.s3⟩
  obtain ⟨a', b', h1, h2, h3, n1, n2, n3⟩ := id q
  obtain ⟨z1, z2⟩ := nr t g q a' b' h1
  exact ⟨a', b', get_set (lt_ne h h1) h1, get_set z1 h2, get_set z2 h3, n1, n2, n3⟩
theorem Lv.push (L : Lv c H d b R MD MB rs gs ds) {ks : List Addr} {t : Addr} {k : Gm} (h : H R = some (.lst (ks.map V.ref))) (r : RowAt (Wd MD MB R) H t k) : Lv c (upd H R (.lst (ks.map V.ref ++ [.ref t]))) d b R MD MB (rs ++ [k]) gs ds := by
  have kR : Keep (fun a => a = R) H (upd H R (.lst (ks.map V.ref ++ [.ref t]))) := Keep.refl.set rfl
  have kW := kR.mono (N := Wd MD MB R) fun _ h => .inr (.inr h)
  obtain ⟨ks', h', p⟩ := L.rows
  rw [h] at h'
  have e : ks = ks' := by
    have : ks.map V.ref = ks'.map V.ref := by injection h' with h'; injection h'
    exact List.map_inj_right (fun a b z => by injection z) |>.mp this
  subst e
  refine ⟨L.D.keep kR fun y h z => L.s2 (z ▸ h), L.B.keep kR (fun y z => ⟨_, z ▸ h⟩) fun y h z => L.s3 (z ▸ h), ⟨ks ++ [t], ?_, Paired.snoc (paired_keep p fun t g q => q.keep kW) (r.keep kW)⟩, L.s1, L.s2, L.s3⟩
  rw [List.map_append]; exact upd_same
end

/-! the moves as they are told -/
abbrev N_Book_lefts : List Str := ["self", "g"]
theorem sc_Book_lefts : FnScope N_Book_lefts ["self", "g"] (defScope s_Book_lefts) := ⟨rfl, rfl, rfl, by decide +kernel, rfl, by decide +kernel, by decide +kernel⟩
def t_Book_lefts (c : Cn) (E : XK) : TS :=
  (tSeq (tDrop (tMeth c.cBook "need" (sx_Book_need c) [] E (tVar 0) (tCons (tVar 1) tNil)))
  (tRet (tCB (kList c.K) (tCons (tOp (bIx c.P c.w c.K) (tOp (bIx c.P c.w c.K) (tFld c.K (tVar 0) "moves") (tVar 1)) (tC (.int 0))) tNil))))
def sp_Book_lefts (c : Cn) : Sp := fun vs H Q E => vs.length = 2 ∧ ∃ (b : Addr) (M : Addr → Prop) (gs : List Gm) (ds : List Int) (g : Nat) (gm : Gm), vs = [.ref b, .int g] ∧ BookAt c H b M gs ds ∧ gs[g]? = some gm ∧ ∀ p, H p = none → Q (.ref p) (upd H p (.lst (gm.1.map V.int)))
theorem p_Book_lefts {c : Cn} {mg : Str → Option Value} (T : Txt c mg) {vs : List V} {H : Hp} {Q : VK} {E : XK} (h : sp_Book_lefts c vs H Q E) : t_Book_lefts c E { nx := fun _ H' => Q .non H', rt := Q } (start N_Book_lefts vs) H := by
  obtain ⟨_, b, M, gs, ds, g, gm, rfl, B, hg, k⟩ := h
  obtain ⟨dx, mv, nm, dp, ts, xs, h1, h2, h3, h4, h5, h6, h7, m1, m2, m3, ne, h8⟩ := B.ex
  have hl := (List.getElem?_eq_some_iff.mp hg).1
  unfold t_Book_lefts
  repeat kaf_suf
  refine ⟨rfl, .inl ⟨rfl, b, M, gs, ds, g, rfl, B, by omega, by omega, ?_⟩⟩
  obtain ⟨t, ht, ka, kb, t1, t2, t3⟩ := paired_get h3 hg
  have hx : atI (ts.map V.ref) (g : Int) = some (V.ref t) := atI_get (n := g) (by rw [List.getElem?_map, ht]; rfl) rfl
  repeat kaf_suf
  exact k
def sy_Book_lefts (c : Cn) : Sp := fun vs H Q E => vs.length = 2 ∧ ∃ (b : Addr) (M : Addr → Prop) (gs : List Gm) (ds : List Int) (v : V), vs = [.ref b, v] ∧ BookAt c H b M gs ds ∧ BadV H gs.length v ∧ E (.ref c.cNoGame) none H
theorem q_Book_lefts {c : Cn} {mg : Str → Option Value} (T : Txt c mg) {vs : List V} {H : Hp} {Q : VK} {E : XK} (h : sy_Book_lefts c vs H Q E) : t_Book_lefts c E { nx := fun _ H' => Q .non H', rt := Q } (start N_Book_lefts vs) H := by
  obtain ⟨_, b, M, gs, ds, v, rfl, B, bd, k⟩ := h
  obtain ⟨dx, mv, nm, dp, hb⟩ := B.ins_
  unfold t_Book_lefts
  repeat kaf_suf
  exact ⟨rfl, .inr ⟨rfl, b, M, gs, ds, v, rfl, B, bd, k⟩⟩
def sx_Book_lefts (c : Cn) : Sp := fun vs H Q E => vs.length = 2 ∧ (sp_Book_lefts c vs H Q E ∨ sy_Book_lefts c vs H Q E)
theorem metx_Book_lefts {c : Cn} {mg : Str → Option Value} {base : Heap} (T : Txt c mg) : Met c.P c.w c.K mg base (L2.CX c.P c.w) 2 c.cBook "lefts" (sx_Book_lefts c) := by
  obtain ⟨f, fd, F, g, b⟩ := T.F_Book_lefts
  exact ⟨f, fd, ["self", "g"], T.cl_Book, g, F.okX (k := 1) (N := N_Book_lefts) sc_Book_lefts (fun vs H Q E h => h.1) (fun cdv A outer s H vs Q E hr h => ⟨t_Book_lefts c E, by
  exact (pss_cons (ps_expr (e_meth (metx_Book_need T) hr (by decide) (passes_call (takes_of rfl rfl rfl rfl) fun _ _ _ _ z => z) (pv 0) (pa_cons (pv 1) pa_nil)))
  (pss_one (ps_ret (pe_callTy (k_list rfl) (by rfl) T.n_list (by decide +kernel) (pa_cons (pe_ix (x_ix (hu64 hr)) (pe_ix (x_ix (hu64 hr)) (pe_fld (pv 0) rfl) (pv 1) (fun _ _ => rfl)) pe_int (fun _ _ => rfl)) pa_nil))))), h.2.elim (p_Book_lefts T) (q_Book_lefts T)⟩), b⟩
theorem met_Book_lefts {c : Cn} {mg : Str → Option Value} {base : Heap} (T : Txt c mg) : Met c.P c.w c.K mg base (L2.CX c.P c.w) 2 c.cBook "lefts" (sp_Book_lefts c) := by
  obtain ⟨f, fd, ps, cl, m, F, b⟩ := (metx_Book_lefts T).ex
  exact ⟨⟨f, fd, ps, cl, m, F.imp fun vs H Q E h => ⟨h.1, .inl h⟩, b⟩⟩
abbrev N_Book_rights : List Str := ["self", "g"]
theorem sc_Book_rights : FnScope N_Book_rights ["self", "g"] (defScope s_Book_rights) := ⟨rfl, rfl, rfl, by decide +kernel, rfl, by decide +kernel, by decide +kernel⟩
def t_Book_rights (c : Cn) (E : XK) : TS :=
  (tSeq (tDrop (tMeth c.cBook "need" (sx_Book_need c) [] E (tVar 0) (tCons (tVar 1) tNil)))
  (tRet (tCB (kList c.K) (tCons (tOp (bIx c.P c.w c.K) (tOp (bIx c.P c.w c.K) (tFld c.K (tVar 0) "moves") (tVar 1)) (tC (.int 1))) tNil))))
def sp_Book_rights (c : Cn) : Sp := fun vs H Q E => vs.length = 2 ∧ ∃ (b : Addr) (M : Addr → Prop) (gs : List Gm) (ds : List Int) (g : Nat) (gm : Gm), vs = [.ref b, .int g] ∧ BookAt c H b M gs ds ∧ gs[g]? = some gm ∧ ∀ p, H p = none → Q (.ref p) (upd H p (.lst (gm.2.map V.int)))
theorem p_Book_rights {c : Cn} {mg : Str → Option Value} (T : Txt c mg) {vs : List V} {H : Hp} {Q : VK} {E : XK} (h : sp_Book_rights c vs H Q E) : t_Book_rights c E { nx := fun _ H' => Q .non H', rt := Q } (start N_Book_rights vs) H := by
  obtain ⟨_, b, M, gs, ds, g, gm, rfl, B, hg, k⟩ := h
  obtain ⟨dx, mv, nm, dp, ts, xs, h1, h2, h3, h4, h5, h6, h7, m1, m2, m3, ne, h8⟩ := B.ex
  have hl := (List.getElem?_eq_some_iff.mp hg).1
  unfold t_Book_rights
  repeat kaf_suf
  refine ⟨rfl, .inl ⟨rfl, b, M, gs, ds, g, rfl, B, by omega, by omega, ?_⟩⟩
  obtain ⟨t, ht, ka, kb, t1, t2, t3⟩ := paired_get h3 hg
  have hx : atI (ts.map V.ref) (g : Int) = some (V.ref t) := atI_get (n := g) (by rw [List.getElem?_map, ht]; rfl) rfl
  repeat kaf_suf
  exact k
def sy_Book_rights (c : Cn) : Sp := fun vs H Q E => vs.length = 2 ∧ ∃ (b : Addr) (M : Addr → Prop) (gs : List Gm) (ds : List Int) (v : V), vs = [.ref b, v] ∧ BookAt c H b M gs ds ∧ BadV H gs.length v ∧ E (.ref c.cNoGame) none H
theorem q_Book_rights {c : Cn} {mg : Str → Option Value} (T : Txt c mg) {vs : List V} {H : Hp} {Q : VK} {E : XK} (h : sy_Book_rights c vs H Q E) : t_Book_rights c E { nx := fun _ H' => Q .non H', rt := Q } (start N_Book_rights vs) H := by
  obtain ⟨_, b, M, gs, ds, v, rfl, B, bd, k⟩ := h
  obtain ⟨dx, mv, nm, dp, hb⟩ := B.ins_
  unfold t_Book_rights
  repeat kaf_suf
  exact ⟨rfl, .inr ⟨rfl, b, M, gs, ds, v, rfl, B, bd, k⟩⟩
def sx_Book_rights (c : Cn) : Sp := fun vs H Q E => vs.length = 2 ∧ (sp_Book_rights c vs H Q E ∨ sy_Book_rights c vs H Q E)
theorem metx_Book_rights {c : Cn} {mg : Str → Option Value} {base : Heap} (T : Txt c mg) : Met c.P c.w c.K mg base (L2.CX c.P c.w) 2 c.cBook "rights" (sx_Book_rights c) := by
  obtain ⟨f, fd, F, g, b⟩ := T.F_Book_rights
  exact ⟨f, fd, ["self", "g"], T.cl_Book, g, F.okX (k := 1) (N := N_Book_rights) sc_Book_rights (fun vs H Q E h => h.1) (fun cdv A outer s H vs Q E hr h => ⟨t_Book_rights c E, by
  exact (pss_cons (ps_expr (e_meth (metx_Book_need T) hr (by decide) (passes_call (takes_of rfl rfl rfl rfl) fun _ _ _ _ z => z) (pv 0) (pa_cons (pv 1) pa_nil)))
  (pss_one (ps_ret (pe_callTy (k_list rfl) (by rfl) T.n_list (by decide +kernel) (pa_cons (pe_ix (x_ix (hu64 hr)) (pe_ix (x_ix (hu64 hr)) (pe_fld (pv 0) rfl) (pv 1) (fun _ _ => rfl)) pe_int (fun _ _ => rfl)) pa_nil))))), h.2.elim (p_Book_rights T) (q_Book_rights T)⟩), b⟩
theorem met_Book_rights {c : Cn} {mg : Str → Option Value} {base : Heap} (T : Txt c mg) : Met c.P c.w c.K mg base (L2.CX c.P c.w) 2 c.cBook "rights" (sp_Book_rights c) := by
  obtain ⟨f, fd, ps, cl, m, F, b⟩ := (metx_Book_rights T).ex
  exact ⟨⟨f, fd, ps, cl, m, F.imp fun vs H Q E h => ⟨h.1, .inl h⟩, b⟩⟩

/-! the depth as it is told -/
abbrev N_Book_depth : List Str := ["self", "g"]
theorem sc_Book_depth : FnScope N_Book_depth ["self", "g"] (defScope s_Book_depth) := ⟨rfl, rfl, rfl, by decide +kernel, rfl, by decide +kernel, by decide +kernel⟩
def t_Book_depth (c : Cn) (E : XK) : TS :=
  (tSeq (tDrop (tMeth c.cBook "need" (sx_Book_need c) [] E (tVar 0) (tCons (tVar 1) tNil)))
  (tRet (tOp (bIx c.P c.w c.K) (tFld c.K (tVar 0) "depths") (tVar 1))))
def sp_Book_depth (c : Cn) : Sp := fun vs H Q E => vs.length = 2 ∧ ∃ (b : Addr) (M : Addr → Prop) (gs : List Gm) (ds : List Int) (g : Nat) (e : Int), vs = [.ref b, .int g] ∧ BookAt c H b M gs ds ∧ ds[g]? = some e ∧ Q (.int e) H
theorem p_Book_depth {c : Cn} {mg : Str → Option Value} (T : Txt c mg) {vs : List V} {H : Hp} {Q : VK} {E : XK} (h : sp_Book_depth c vs H Q E) : t_Book_depth c E { nx := fun _ H' => Q .non H', rt := Q } (start N_Book_depth vs) H := by
  obtain ⟨_, b, M, gs, ds, g, e, rfl, B, hg, k⟩ := h
  obtain ⟨dx, mv, nm, dp, ts, xs, h1, h2, h3, h4, h5, h6, h7, m1, m2, m3, ne, h8⟩ := B.ex
  have hl := (List.getElem?_eq_some_iff.mp hg).1
  have hn := B.dok.len
  unfold t_Book_depth
  repeat kaf_suf
  refine ⟨rfl, .inl ⟨rfl, b, M, gs, ds, g, rfl, B, by omega, by omega, ?_⟩⟩
  have hx : atI (ds.map V.int) (g : Int) = some (V.int e) := atI_get (n := g) (by rw [List.getElem?_map, hg]; rfl) rfl
  repeat kaf_suf
  exact k
def sy_Book_depth (c : Cn) : Sp := fun vs H Q E => vs.length = 2 ∧ ∃ (b : Addr) (M : Addr → Prop) (gs : List Gm) (ds : List Int) (v : V), vs = [.ref b, v] ∧ BookAt c H b M gs ds ∧ BadV H gs.length v ∧ E (.ref c.cNoGame) none H
theorem q_Book_depth {c : Cn} {mg : Str → Option Value} (T : Txt c mg) {vs : List V} {H : Hp} {Q : VK} {E : XK} (h : sy_Book_depth c vs H Q E) : t_Book_depth c E { nx := fun _ H' => Q .non H', rt := Q } (start N_Book_depth vs) H := by
  obtain ⟨_, b, M, gs, ds, v, rfl, B, bd, k⟩ := h
  obtain ⟨dx, mv, nm, dp, hb⟩ := B.ins_
  unfold t_Book_depth
  repeat kaf_suf
  exact ⟨rfl, .inr ⟨rfl, b, M, gs, ds, v, rfl, B, bd, k⟩⟩
def sx_Book_depth (c : Cn) : Sp := fun vs H Q E => vs.length = 2 ∧ (sp_Book_depth c vs H Q E ∨ sy_Book_depth c vs H Q E)
theorem metx_Book_depth {c : Cn} {mg : Str → Option Value} {base : Heap} (T : Txt c mg) : Met c.P c.w c.K mg base (L2.CX c.P c.w) 2 c.cBook "depth" (sx_Book_depth c) := by
  obtain ⟨f, fd, F, g, b⟩ := T.F_Book_depth
  exact ⟨f, fd, ["self", "g"], T.cl_Book, g, F.okX (k := 1) (N := N_Book_depth) sc_Book_depth (fun vs H Q E h => h.1) (fun cdv A outer s H vs Q E hr h => ⟨t_Book_depth c E, by
  exact (pss_cons (ps_expr (e_meth (metx_Book_need T) hr (by decide) (passes_call (takes_of rfl rfl rfl rfl) fun _ _ _ _ z => z) (pv 0) (pa_cons (pv 1) pa_nil)))
  (pss_one (ps_ret (pe_ix (x_ix (hu64 hr)) (pe_fld (pv 0) rfl) (pv 1) (fun _ _ => rfl))))), h.2.elim (p_Book_depth T) (q_Book_depth T)⟩), b⟩
theorem met_Book_depth {c : Cn} {mg : Str → Option Value} {base : Heap} (T : Txt c mg) : Met c.P c.w c.K mg base (L2.CX c.P c.w) 2 c.cBook "depth" (sp_Book_depth c) := by
  obtain ⟨f, fd, ps, cl, m, F, b⟩ := (metx_Book_depth T).ex
  exact ⟨⟨f, fd, ps, cl, m, F.imp fun vs H Q E h => ⟨h.1, .inl h⟩, b⟩⟩
theorem DOk.pos {gs : List Gm} {ds : List Int} (o : GOk gs) (d : DOk gs ds) : ∀ (n i : Nat), i < n → ∀ e, ds[i]? = some e → 0 ≤ e
  | 0, _, h, _, _ => by omega
  | n + 1, i, h, e, he => by
    have hi := (List.getElem?_eq_some_iff.mp he).1
    obtain ⟨g, hg⟩ : ∃ g, gs[i]? = some g := ⟨_, List.getElem?_eq_getElem (by rw [← d.len]; exact hi)⟩
    obtain ⟨d1, _, d3⟩ := d.at_ i _ e hg he
    by_cases z : g.1 ++ g.2 = []
    · have := d1 z; omega
    · obtain ⟨x, hx, ex⟩ := d3 z
      obtain ⟨m, hm, rfl⟩ := List.mem_map.mp hx
      obtain ⟨l0, l1⟩ := o.low i _ hg m hm
      have : 0 ≤ ds[m.toNat]?.getD 0 := by
        cases q : ds[m.toNat]? with
        | none => simp
        | some v => exact DOk.pos o d n m.toNat (by omega) v q
      omega

theorem gm_len {c : Cn} {H : Hp} {b : Addr} {M : Addr → Prop} {gs : List Gm} {ds : List Int} (B : BookAt c H b M gs ds) {i : Nat} {g : Gm} (h : gs[i]? = some g) (n : gs.length ≤ 900) : g.1.length ≤ 900 ∧ g.2.length ≤ 900 := by
  have up := B.ok.up g (List.mem_of_getElem? h)
  have lw := B.ok.low i g h
  have hi := (List.getElem?_eq_some_iff.mp h).1
  have l1 := up_len _ 0 gs.length up.1 (fun x hx => by have := lw x (List.mem_append_left _ hx); omega) (by omega)
  have l2 := up_len _ 0 gs.length up.2 (fun x hx => by have := lw x (List.mem_append_right _ hx); omega) (by omega)
  omega

/-! some moves among many -/
abbrev N_law_moves : List Str := ["deck", "many", "found", "k", "one", "near"]
theorem sc_law_moves : FnScope N_law_moves ["deck", "many"] (defScope s_law_moves) := ⟨rfl, rfl, rfl, by decide +kernel, rfl, by decide +kernel, by decide +kernel⟩
def t_law_moves (c : Cn) : TS :=
  (tSeq (tAsg (tLst tNil) (gName 2))
  (tSeq (tFor (iRng1 (tCons (tOp (bIx c.P c.w c.K) (tLst (tCons (tC (.int 0)) (tCons (tC (.int 1)) (tCons (tC (.int 1)) (tCons (tC (.int 2)) (tCons (tC (.int 2)) (tCons (tC (.int 3)) (tCons (tC (.int 4)) tNil)))))))) (tCall (sp_law_draw c) [] E0 (tCons (tVar 0) (tCons (tC (.int 7)) tNil)))) tNil)) (gName 3)
  (tSeq (tAsg (tCall (sp_law_draw c) [] E0 (tCons (tVar 0) (tCons (tVar 1) tNil))) (gName 4))
  (tSeq (tAsg (tOp bSub (tOp bSub (tVar 1) (tC (.int 1))) (tCall (sp_law_draw c) [] E0 (tCons (tVar 0) (tCons (tCB (kMin c.K) (tCons (tVar 1) (tCons (tC (.int 3)) tNil))) tNil)))) (gName 5))
  (tDrop (tBM c.K "list" rAppend (tVar 2) (tCons (tOp (bIx c.P c.w c.K) (tLst (tCons (tVar 4) (tCons (tVar 5) tNil))) (tCall (sp_law_draw c) [] E0 (tCons (tVar 0) (tCons (tC (.int 2)) tNil)))) tNil))))))
  (tRet (tVar 2))))
def sp_law_moves (c : Cn) : Sp := fun vs H Q E => vs.length = 2 ∧ ∃ (d : Addr) (m : Int) (M : Addr → Prop), vs = [.ref d, .int m] ∧ 1 ≤ m ∧ m < 2000 ∧ DeckAt H d M ∧
  ∀ (H' : Hp) (l : Addr) (ms : List Int), Keep M H H' → DeckAt H' d M → H l = none → H' l = some (.lst (ms.map V.int)) → ms.length ≤ 4 → (∀ x ∈ ms, 0 ≤ x ∧ x < m) → Q (.ref l) H'
theorem p_law_moves {c : Cn} {mg : Str → Option Value} (T : Txt c mg) {vs : List V} {H : Hp} {Q : VK} {E : XK} (h : sp_law_moves c vs H Q E) : t_law_moves c { nx := fun _ H' => Q .non H', rt := Q } (start N_law_moves vs) H := by
  obtain ⟨_, d, m, M, rfl, m1, m2, D, k⟩ := h
  unfold t_law_moves
  repeat kaf_suf
  intro l hl
  repeat kaf_suf
  intro p1 hp1
  repeat kaf_suf
  have D1 : DeckAt (upd (upd H l (.lst [])) p1 (.lst [.int 0, .int 1, .int 1, .int 2, .int 2, .int 3, .int 4])) d M := D.keep (Keep.new (Keep.alloc hl) hp1) (fun _ _ z => z)
  refine ⟨rfl, d, 7, M, rfl, by decide, by decide, D1, fun H1 n kp1 D1 n0 n1 => ?_⟩
  obtain ⟨z, hz, z0, z1⟩ : ∃ z : Int, atI [V.int 0, V.int 1, V.int 1, V.int 2, V.int 2, V.int 3, V.int 4] n = some (V.int z) ∧ 0 ≤ z ∧ z ≤ 4 := by
    have : n = 0 ∨ n = 1 ∨ n = 2 ∨ n = 3 ∨ n = 4 ∨ n = 5 ∨ n = 6 := by omega
    rcases this with rfl | rfl | rfl | rfl | rfl | rfl | rfl
    · exact ⟨0, rfl, by decide, by decide⟩
    · exact ⟨1, rfl, by decide, by decide⟩
    · exact ⟨1, rfl, by decide, by decide⟩
    · exact ⟨2, rfl, by decide, by decide⟩
    · exact ⟨2, rfl, by decide, by decide⟩
    · exact ⟨3, rfl, by decide, by decide⟩
    · exact ⟨4, rfl, by decide, by decide⟩
  have np1 : ¬ M p1 := D.new (none_of_upd hp1)
  have nl : ¬ M l := D.new hl
  repeat kaf_suf
  refine for_range (lo := 0) (n := z.toNat) (fun i σ H' => ∃ (ms : List Int) (a b c : Option V), σ = [some (.ref d), some (.int m), some (.ref l), a, b, c] ∧ H' l = some (.lst (ms.map V.int)) ∧ ms.length = i ∧ (∀ x ∈ ms, 0 ≤ x ∧ x < m) ∧ Keep M H H' ∧ DeckAt H' d M) ⟨[], _, _, _, rfl, by kaf_pre, rfl, fun _ z => (nomatch z), ((Keep.alloc hl).new hp1 |>.trans kp1), D1⟩ ?_ ?_
  · rintro i σ H2 hi ⟨ms, a, b, c', rfl, e1, e2, e3, k2, D2⟩
    repeat kaf_suf
    refine ⟨rfl, d, m, M, rfl, m1, by omega, D2, fun H3 one kp3 D3 o0 o1 => ?_⟩
    repeat kaf_suf
    have tm : 1 ≤ (if (3 : Int) < m then 3 else m) ∧ (if (3 : Int) < m then 3 else m) ≤ 3 ∧ (if (3 : Int) < m then 3 else m) ≤ m := by split <;> omega
    refine ⟨rfl, d, _, M, rfl, tm.1, by omega, D3, fun H4 w kp4 D4 w0 w1 => ?_⟩
    repeat kaf_suf
    intro p2 hp2
    repeat kaf_suf
    have D5 := D4.keep (Keep.alloc (o := .lst [.int one, .int (m - 1 - w)]) hp2) (fun _ _ z => z)
    refine ⟨rfl, d, 2, M, rfl, by decide, by decide, D5, fun H6 u kp6 D6 u0 u1 => ?_⟩
    have np2 : ¬ M p2 := D4.new hp2
    obtain ⟨y, hy, y0, y1⟩ : ∃ y : Int, atI [V.int one, V.int (m - 1 - w)] u = some (V.int y) ∧ 0 ≤ y ∧ y < m := by
      have : u = 0 ∨ u = 1 := by omega
      rcases this with rfl | rfl
      · exact ⟨one, rfl, o0, o1⟩
      · exact ⟨_, rfl, by omega, by omega⟩
    repeat kaf_suf
    refine ⟨ms ++ [y], _, _, _, rfl, ?_, by simp [e2], fun x hx => ?_, (((k2.trans kp3).trans kp4).new hp2 |>.trans kp6).setN hl, D6.keep (N := fun x => x = l) (Keep.refl.set rfl) fun x hx e => nl (e ▸ hx)⟩
    · rw [List.map_append]; exact upd_same
    · rcases List.mem_append.mp hx with hx | hx
      · exact e3 x hx
      · cases List.mem_singleton.mp hx; exact ⟨y0, y1⟩
  · rintro σ H2 ⟨ms, a, b, c', rfl, e1, e2, e3, k2, D2⟩
    repeat kaf_suf
    exact k H2 l ms k2 D2 hl e1 (by omega) e3
theorem cal_law_moves {c : Cn} {mg : Str → Option Value} {base : Heap} (T : Txt c mg) : Cal c.P c.w c.K mg base CX0 2 "_law_moves" (sp_law_moves c) := by
  obtain ⟨f, fd, F, g, b⟩ := T.F_law_moves
  exact ⟨f, fd, ["deck", "many"], F.ok (k := 1) (N := N_law_moves) sc_law_moves (fun vs H Q E h => h.1) (fun cdv A outer s H vs Q E hr h => ⟨t_law_moves c, by
  exact (pss_cons (ps_set (i := 2) sc_law_moves.nd rfl (Or.inl rfl) (pe_lst pa_nil))
  (pss_cons (ps_for PassesOwn.never rfl (pi_range1 rfl T.n_range (pa_cons (pe_ix (x_ix (hu64 hr)) (pe_lst (pa_cons pe_int (pa_cons pe_int (pa_cons pe_int (pa_cons pe_int (pa_cons pe_int (pa_cons pe_int (pa_cons pe_int pa_nil)))))))) (e_call (cal_law_draw T) hr (by decide) pass0 rfl (pa_cons (pv 0) (pa_cons pe_int pa_nil))) (fun _ _ => rfl)) pa_nil)) (pg_name (i := 3) sc_law_moves.nd rfl (Or.inl rfl))
  (pss_cons (ps_set (i := 4) sc_law_moves.nd rfl (Or.inl rfl) (e_call (cal_law_draw T) hr (by decide) pass0 rfl (pa_cons (pv 0) (pa_cons (pv 1) pa_nil))))
  (pss_cons (ps_set (i := 5) sc_law_moves.nd rfl (Or.inl rfl) (pe_op o_sub (pe_op o_sub (pv 1) pe_int) (e_call (cal_law_draw T) hr (by decide) pass0 rfl (pa_cons (pv 0) (pa_cons (pe_callB (k_min rfl) (by rfl) T.n_min (by decide +kernel) (pa_cons (pv 1) (pa_cons pe_int pa_nil))) pa_nil)))))
  (pss_one (ps_expr (pe_bm PySem.F.plainAttrs_list PySem.F.slot_list_append PySem.F.type_list_append mt_append (pv 2) (pa_cons (pe_ix (x_ix (hu64 hr)) (pe_lst (pa_cons (pv 4) (pa_cons (pv 5) pa_nil))) (e_call (cal_law_draw T) hr (by decide) pass0 rfl (pa_cons (pv 0) (pa_cons pe_int pa_nil))) (fun _ _ => rfl)) pa_nil)))))))
  (pss_one (ps_ret (pv 2))))), p_law_moves T h⟩), g, F.kp, b⟩

/-! a book grown out of the deck -/
abbrev N_law_grown : List Str := ["deck", "book", "many", "rows", "k", "lefts", "rights", "told", "key"]
theorem sc_law_grown : FnScope N_law_grown ["deck", "book", "many"] (defScope s_law_grown) := ⟨rfl, rfl, rfl, by decide +kernel, rfl, by decide +kernel, by decide +kernel⟩
def t_law_grown (c : Cn) : TS :=
  (tSeq (tAsg (tLst (tCons (tTup (tCons (tLst tNil) (tCons (tLst tNil) tNil))) tNil)) (gName 3))
  (tSeq (tFor (iRng1 (tCons (tVar 2) tNil)) (gName 4)
  (tSeq (tAsg (tCall (sp_law_moves c) [] E0 (tCons (tVar 0) (tCons (tCB (kLen c.K) (tCons (tVar 3) tNil)) tNil))) (gName 5))
  (tSeq (tAsg (tCall (sp_law_moves c) [] E0 (tCons (tVar 0) (tCons (tCB (kLen c.K) (tCons (tVar 3) tNil)) tNil))) (gName 6))
  (tSeq (tAsg (tMeth c.cBook "game" (sp_Book_game c) [] E0 (tVar 1) (tCons (tCB (kList c.K) (tCons (tVar 5) tNil)) (tCons (tCB (kList c.K) (tCons (tVar 6) tNil)) tNil))) (gName 7))
  (tSeq (tAsg (tTup (tCons (tCB (kSorted c.K c.w) (tCons (tCB (uSetI c.K c.w) (tCons (tVar 5) tNil)) tNil)) (tCons (tCB (kSorted c.K c.w) (tCons (tCB (uSetI c.K c.w) (tCons (tVar 6) tNil)) tNil)) tNil))) (gName 8))
  (C8.tCut (tIfS (tTest (tOp (cNotIn c.P c.w c.K) (tVar 8) (tVar 3)))
  (tDrop (tBM c.K "list" rAppend (tVar 3) (tCons (tVar 8) tNil)))
  tNext)
  (tIfS (tTest (tOp (cNe c.K) (tVar 7) (tBM c.K "list" (kIndex c.K) (tVar 3) (tCons (tVar 8) tNil))))
  (tRet (tC .non))
  tNext)))))))
  (tRet (tVar 3))))
def sp_law_grown (c : Cn) : Sp := fun vs H Q E => vs.length = 3 ∧ ∃ (d b : Addr) (m : Int) (MD MB : Addr → Prop), vs = [.ref d, .ref b, .int m] ∧ 0 ≤ m ∧ m ≤ 60 ∧ DeckAt H d MD ∧ BookAt c H b MB [([], [])] [0] ∧ (∀ x, MB x → ¬ MD x) ∧
  ∀ (H' : Hp) (R : Addr) (gs : List Gm) (ds : List Int), Lv c H' d b R MD MB gs gs ds → (gs.length : Int) ≤ m + 1 → Q (.ref R) H'
theorem p_law_grown {c : Cn} {mg : Str → Option Value} (T : Txt c mg) {vs : List V} {H : Hp} {Q : VK} {E : XK} (h : sp_law_grown c vs H Q E) : t_law_grown c { nx := fun _ H' => Q .non H', rt := Q } (start N_law_grown vs) H := by
  obtain ⟨_, d, b, m, MD, MB, rfl, m0, m1, D2, B2, nbD, k⟩ := h
  unfold t_law_grown
  repeat kaf_suf
  intro e1 he1
  repeat kaf_suf
  intro e2 he2
  repeat kaf_suf
  intro e3 he3
  repeat kaf_suf
  intro R hR
  have kR : Keep Nil H (upd (upd (upd (upd H e1 (.lst [])) e2 (.lst [])) e3 (.tup [.ref e1, .ref e2])) R (.lst [.ref e3])) := (((Keep.alloc he1).new he2).new he3).new hR
  have hR2 : H R = none := none_of_upd (none_of_upd (none_of_upd hR))
  have nw : ∀ x, H x = none → x ≠ R → ¬ Wd MD MB R x := fun x h n z => z.elim (D2.new h) fun z => z.elim (B2.new h) n
  have ne1 : e1 ≠ R := ne_old hR (by kaf_pre)
  have ne2 : e2 ≠ R := ne_old hR (by kaf_pre)
  have ne3 : e3 ≠ R := ne_old hR (by kaf_pre)
  have L3 : Lv c (upd (upd (upd (upd H e1 (.lst [])) e2 (.lst [])) e3 (.tup [.ref e1, .ref e2])) R (.lst [.ref e3])) d b R MD MB [([], [])] [([], [])] [0] :=
    ⟨D2.keep kR fun _ _ z => z, B2.same kR, ⟨[e3], upd_same, .cons ⟨e1, e2, by kaf_pre, by kaf_pre, by kaf_pre, nw _ (none_of_upd (none_of_upd he3)) ne3, nw _ he1 ne1, nw _ (none_of_upd he2) ne2⟩ .nil⟩, nbD, D2.new hR2, B2.new hR2⟩
  generalize upd (upd (upd (upd H e1 (.lst [])) e2 (.lst [])) e3 (.tup [.ref e1, .ref e2])) R (.lst [.ref e3]) = H3 at L3 ⊢
  clear kR hR2 nw ne1 ne2 ne3 he1 he2 he3 hR D2 B2
  repeat kaf_suf
  refine for_range (lo := 0) (n := m.toNat) (fun i σ H' => ∃ (x4 x5 x6 x7 x8 : Option V) (gs : List Gm) (ds : List Int), σ = [some (.ref d), some (.ref b), some (.int m), some (.ref R), x4, x5, x6, x7, x8] ∧ Lv c H' d b R MD MB gs gs ds ∧ gs.length ≤ i + 1) ⟨_, _, _, _, _, _, _, rfl, L3, by simp⟩ ?_ ?_
  · rintro i σ H5 hi ⟨x4, x5, x6, x7, x8, gs, ds, rfl, L5, hg⟩
    obtain ⟨ks, hks, pks⟩ := id L5.rows
    have pos := L5.B.pos
    have hkl : ks.length = gs.length := Paired.length pks
    have hkm : (ks.map V.ref).length = gs.length := by rw [List.length_map, hkl]
    have gi : gs.length ≤ 60 := by omega
    repeat kaf_suf
    refine ⟨rfl, d, _, MD, rfl, by omega, by omega, L5.D, fun H6 l ls k6 D6 nl hl ll lb => ?_⟩
    have L6 := L5.draw k6 D6
    have hks6 := k6 _ _ L5.s2 hks
    have nl6 := L5.new nl
    repeat kaf_suf
    refine ⟨rfl, d, _, MD, rfl, by omega, by omega, L6.D, fun H7 r rs k7 D7 nr hr rl rb => ?_⟩
    have L7 := L6.draw k7 D7
    have hks7 := k7 _ _ L6.s2 hks6
    have nr7 := L6.new nr
    have hl7 : H7 l = some (.lst (ls.map V.int)) := k7 _ _ (fun z => nl6 (.inl z)) hl
    have lb' : ∀ x ∈ ls, 0 ≤ x ∧ x < gs.length := fun x hx => by have := lb x hx; omega
    have rb' : ∀ x ∈ rs, 0 ≤ x ∧ x < gs.length := fun x hx => by have := rb x hx; omega
    obtain ⟨bx0, bm0, bn0, bd0, hb7⟩ := L7.B.ins_
    clear k6 k7 L6 D6 D7 hl lb rb L5 pks hks6 hks
    repeat kaf_suf
    intro y1 hy1
    repeat kaf_suf
    intro y2 hy2
    have ny1 := L7.new hy1
    have ny2 := L7.new (none_of_upd hy2)
    have y12 : y1 ≠ y2 := ne_old hy2 upd_same
    repeat kaf_suf
    have kY : Keep Nil H7 (upd (upd H7 y1 (.lst (ls.map V.int))) y2 (.lst (rs.map V.int))) := (Keep.alloc hy1).new hy2
    refine ⟨rfl, b, y1, y2, MB, gs, ds, ls, rs, rfl, L7.B.same kY, by kaf_pre, by kaf_pre, fun z => ny1 (.inr (.inl z)), fun z => ny2 (.inr (.inl z)), by omega, by omega, by omega, fun x hx => ?_, fun H8 e k8 B8 => ?_⟩
    · rcases List.mem_append.mp hx with hx | hx
      · exact lb' x hx
      · exact rb' x hx
    have L8 := (L7.same kY).game k8 B8
    have kw8 : Keep MB H7 H8 := kY.weak.trans k8
    have al8 := kw8 _ _ (fun z => nl6 (.inr (.inl z))) hl7
    have ar8 := kw8 _ _ (fun z => nr7 (.inr (.inl z))) hr
    have hks8 := kw8 _ _ L7.s3 hks7
    clear kY k8 kw8 B8 hl7 hr hks7 L7 hb7 hy1 hy2
    have w1 : ls.length ≤ 4000 := by omega
    have w2 : rs.length ≤ 4000 := by omega
    repeat kaf_suf
    intro p4 c4 hp4 _
    repeat kaf_suf
    intro ns4 p5 u4 m4 _ hp5
    repeat kaf_suf
    intro p7 c7 hp7 _
    repeat kaf_suf
    intro ns7 p8 u7 m7 _ hp8
    repeat kaf_suf
    intro t ht
    repeat kaf_suf
    obtain rfl : ns4 = canon ls := canon_eq u4 (by simpa using m4)
    obtain rfl : ns7 = canon rs := canon_eq u7 (by simpa using m7)
    refine absS (S := fun HT => Keep Nil H8 HT ∧ HT t = some (.tup [.ref p5, .ref p8]) ∧ HT p5 = some (.lst ((canon ls).map V.int)) ∧ HT p8 = some (.lst ((canon rs).map V.int))) ⟨?_, upd_same, by kaf_pre, by kaf_pre⟩ fun H9 ⟨k9, t1, t2, t3⟩ => ?_
    · exact ((((Keep.alloc hp4).new hp5).new hp7).new hp8).new ht
    have rt : RowAt (Wd MD MB R) H9 t (canon ls, canon rs) := ⟨p5, p8, t1, t2, t3, L8.new (none_of_upd (none_of_upd (none_of_upd (none_of_upd ht)))), L8.new (none_of_upd hp5), L8.new (none_of_upd (none_of_upd (none_of_upd hp8)))⟩
    have L9 := L8.same k9
    obtain ⟨ks9, hks9, pks9⟩ := id L9.rows
    have hkl9 : ks9.length = gs.length := Paired.length pks9
    have mem := addG_mem gs (canon ls, canon rs)
    have gl := addG_len (gs := gs) (k := (canon ls, canon rs))
    clear hp4 hp5 hp7 hp8 ht k9 L8 m4 m7 u4 u7 al8 ar8 hks8
    refine ⟨fun σ' H' => ∃ x4 x5 x6, σ' = [some (.ref d), some (.ref b), some (.int m), some (.ref R), x4, x5, x6, some (.int (ixG (addG gs (canon ls, canon rs)) (canon ls, canon rs))), some (.ref t)] ∧ Keep (Wd MD MB R) H9 H' ∧ Lv c H' d b R MD MB (addG gs (canon ls, canon rs)) (addG gs (canon ls, canon rs)) (ds ++ e), ?_, ?_⟩
    · repeat kaf_suf
      refine v_ninRows L9.rows rt ?_
      repeat kaf_suf
      refine r_iteN (fun e => ?_) (fun e => ?_)
      · repeat kaf_suf
        refine ⟨_, _, _, rfl, Keep.refl.set (.inr (.inr rfl)), ?_⟩
        have := L9.push hks9 rt
        rw [addG, if_neg e] at this ⊢
        exact this
      · repeat kaf_suf
        refine ⟨_, _, _, rfl, Keep.refl, ?_⟩
        have := L9
        rw [addG, if_pos e] at this ⊢
        exact this
    · rintro σ' H10 ⟨x4, x5, x6, rfl, k10, L10⟩
      have rt10 := rt.keep k10
      obtain ⟨ks10, hks10, pks10⟩ := id L10.rows
      generalize addG gs (canon ls, canon rs) = gs' at L10 mem gl pks10 ⊢
      clear k10 hks9 pks9 L9 rt t1 t2 t3
      repeat kaf_suf
      refine v_indexRows L10.rows rt10 mem ?_
      repeat kaf_suf
      exact ⟨_, _, _, _, _, gs', _, rfl, L10, by omega⟩
  · rintro σ H5 ⟨x4, x5, x6, x7, x8, gs, ds, rfl, L5, hg⟩
    repeat kaf_suf
    exact k H5 R gs ds L5 (by omega)
theorem cal_law_grown {c : Cn} {mg : Str → Option Value} {base : Heap} (T : Txt c mg) : Cal c.P c.w c.K mg base CX0 3 "_law_grown" (sp_law_grown c) := by
  obtain ⟨f, fd, F, g, b⟩ := T.F_law_grown
  exact ⟨f, fd, ["deck", "book", "many"], F.ok (k := 2) (N := N_law_grown) sc_law_grown (fun vs H Q E h => h.1) (fun cdv A outer s H vs Q E hr h => ⟨t_law_grown c, by
  exact (pss_cons (ps_set (i := 3) sc_law_grown.nd rfl (Or.inl rfl) (pe_lst (pa_cons (pe_tup (pa_cons (pe_lst pa_nil) (pa_cons (pe_lst pa_nil) pa_nil))) pa_nil)))
  (pss_cons (ps_for PassesOwn.never rfl (pi_range1 rfl T.n_range (pa_cons (pv 2) pa_nil)) (pg_name (i := 4) sc_law_grown.nd rfl (Or.inl rfl))
  (pss_cons (ps_set (i := 5) sc_law_grown.nd rfl (Or.inl rfl) (e_call (cal_law_moves T) hr (by decide) pass0 rfl (pa_cons (pv 0) (pa_cons (pe_callB k_len (by rfl) T.n_len (by decide +kernel) (pa_cons (pv 3) pa_nil)) pa_nil))))
  (pss_cons (ps_set (i := 6) sc_law_grown.nd rfl (Or.inl rfl) (e_call (cal_law_moves T) hr (by decide) pass0 rfl (pa_cons (pv 0) (pa_cons (pe_callB k_len (by rfl) T.n_len (by decide +kernel) (pa_cons (pv 3) pa_nil)) pa_nil))))
  (pss_cons (ps_set (i := 7) sc_law_grown.nd rfl (Or.inl rfl) (e_meth (met_Book_game T) hr (by decide) passL (pv 1) (pa_cons (pe_callTy (k_list rfl) (by rfl) T.n_list (by decide +kernel) (pa_cons (pv 5) pa_nil)) (pa_cons (pe_callTy (k_list rfl) (by rfl) T.n_list (by decide +kernel) (pa_cons (pv 6) pa_nil)) pa_nil))))
  (pss_cons (ps_set (i := 8) sc_law_grown.nd rfl (Or.inl rfl) (pe_tup (pa_cons (pe_callB (k_sorted rfl) (by rfl) T.n_sorted (by decide +kernel) (pa_cons (pe_callTy (k_set rfl) (by rfl) T.n_set (by decide +kernel) (pa_cons (pv 5) pa_nil)) pa_nil)) (pa_cons (pe_callB (k_sorted rfl) (by rfl) T.n_sorted (by decide +kernel) (pa_cons (pe_callTy (k_set rfl) (by rfl) T.n_set (by decide +kernel) (pa_cons (pv 6) pa_nil)) pa_nil)) pa_nil))))
  (C8.pss_cut (ps_if (pt_cmpR (o_notin (hu65 hr)) (pv 8) (pv 3) (by rfl)) (pss_one (ps_expr (pe_bm PySem.F.plainAttrs_list PySem.F.slot_list_append PySem.F.type_list_append mt_append (pv 3) (pa_cons (pv 8) pa_nil)))) pss_nil)
  (pss_one (ps_if (pt_cmpR (o_ne (hu64 hr)) (pv 7) (pe_bm PySem.F.plainAttrs_list PySem.F.slot_list_index PySem.F.type_list_index (mt_kindex (hu65 hr)) (pv 3) (pa_cons (pv 8) pa_nil)) (nomark _)) (pss_one (ps_ret pe_non)) pss_nil))))))))
  (pss_one (ps_ret (pv 3))))), p_law_grown T h⟩), g, F.kp, b⟩

/-! the depths by the rows -/
abbrev N_law_depths : List Str := ["rows", "found", "lefts", "rights", "g"]
theorem sc_law_depths : FnScope N_law_depths ["rows"] (defScope s_law_depths) := ⟨rfl, rfl, rfl, by decide +kernel, rfl, by decide +kernel, by decide +kernel⟩
def t_law_depths (c : Cn) : TS :=
  (tSeq (tAsg (tLst tNil) (gName 1))
  (tSeq (tFor (iAny c.K (tVar 0)) (gSeq c.K 2 (gCons (gName 2) (gCons (gName 3) gNil)))
  (tDrop (tBM c.K "list" rAppend (tVar 1) (tCons (tCB (kMax c.K) (tCons (tOp (bAdd c.K) (tLst (tCons (tC (.int 0)) tNil)) (tLc (iAny c.K (tOp (bAdd c.K) (tVar 2) (tVar 3))) (gName 4) tYes (tOp (bAdd c.K) (tC (.int 1)) (tOp (bIx c.P c.w c.K) (tVar 1) (tVar 4))) [4])) tNil)) tNil))))
  (tRet (tVar 1))))
def sp_law_depths (c : Cn) : Sp := fun vs H Q E => vs.length = 1 ∧ ∃ (R : Addr) (W : Addr → Prop) (gs : List Gm) (ds : List Int), vs = [.ref R] ∧ RowsAt W H R gs ∧ GOk gs ∧ DOk gs ds ∧ gs.length ≤ 100 ∧ (∀ g ∈ gs, g.1.length ≤ 900 ∧ g.2.length ≤ 900) ∧
  ∀ (H' : Hp) (l : Addr), Keep Nil H H' → H' l = some (.lst (ds.map V.int)) → Q (.ref l) H'
theorem p_law_depths {c : Cn} {mg : Str → Option Value} (T : Txt c mg) {vs : List V} {H : Hp} {Q : VK} {E : XK} (h : sp_law_depths c vs H Q E) : t_law_depths c { nx := fun _ H' => Q .non H', rt := Q } (start N_law_depths vs) H := by
  obtain ⟨_, R, W, gs, ds, rfl, rows, go, dok, few, gl, k⟩ := h
  obtain ⟨ks, hks, pks⟩ := rows
  have hkl : ks.length = gs.length := Paired.length pks
  have hdl := dok.len
  unfold t_law_depths
  repeat kaf_suf
  intro l hl
  repeat kaf_suf
  refine for_list (xs := ks.map V.ref) (fun i σ H' => ∃ x2 x3 : Option V, σ = [some (.ref R), some (.ref l), x2, x3, none] ∧ Keep Nil H H' ∧ H' l = some (.lst ((ds.take i).map V.int))) ⟨_, _, rfl, Keep.alloc hl, upd_same⟩ ?_ ?_ ?_
  · rintro i σ H' _ ⟨_, _, _, kk, _⟩; exact SqL.of (kk.get (fun z => z) hks)
  · rintro i x σ H1 hi ⟨x2, x3, rfl, kk, e1⟩
    have hi' : i < gs.length := by
      have := (List.getElem?_eq_some_iff.mp hi).1
      rw [List.length_map, hkl] at this; exact this
    obtain ⟨g, hg⟩ : ∃ g, gs[i]? = some g := ⟨_, List.getElem?_eq_getElem hi'⟩
    obtain ⟨e, he⟩ : ∃ e, ds[i]? = some e := ⟨_, List.getElem?_eq_getElem (by omega)⟩
    obtain ⟨t, ht, ra, rb, t1, t2, t3, _⟩ := paired_get pks hg
    rw [List.getElem?_map, ht] at hi
    cases hi
    obtain ⟨f1, f2⟩ := gl g (List.mem_of_getElem? hg)
    have low := go.low i g hg
    have u1 := kk.get (fun z => z) t1
    have u2 := kk.get (fun z => z) t2
    have u3 := kk.get (fun z => z) t3
    refine r_seqT u1 rfl (r_gcons ?_)
    repeat kaf_suf
    refine r_gcons ?_
    repeat kaf_suf
    refine r_gnil ?_
    repeat kaf_suf
    intro z hz
    repeat kaf_suf
    intro y hy
    repeat kaf_suf
    intro D hD
    have hlz : (upd (upd H1 z (.lst [.int 0])) y (.lst (g.1.map V.int ++ g.2.map V.int))) l = some (.lst ((ds.take i).map V.int)) := by kaf_pre
    have hly : (upd (upd H1 z (.lst [.int 0])) y (.lst (g.1.map V.int ++ g.2.map V.int))) y = some (.lst (g.1.map V.int ++ g.2.map V.int)) := upd_same
    have hzz : (upd (upd H1 z (.lst [.int 0])) y (.lst (g.1.map V.int ++ g.2.map V.int))) z = some (.lst [.int 0]) := by kaf_pre
    have kz : Keep Nil H1 (upd (upd H1 z (.lst [.int 0])) y (.lst (g.1.map V.int ++ g.2.map V.int))) := (Keep.alloc hz).new hy
    generalize upd (upd H1 z (.lst [.int 0])) y (.lst (g.1.map V.int ++ g.2.map V.int)) = H2 at hD hlz hly hzz kz ⊢
    have hlen : ((dps ds (g.1 ++ g.2)).map fun x => 1 + x).length = (g.1 ++ g.2).length := by simp [dps]
    refine lc_list (xs := g.1.map V.int ++ g.2.map V.int) (fun j H3 => H3 D = some (.lst ((((dps ds (g.1 ++ g.2)).map fun x => 1 + x).take j).map V.int)) ∧ Keep Nil H2 H3) ⟨upd_same, Keep.alloc hD⟩ ?_ ?_ ?_
    · rintro j H3 _ ⟨_, k3⟩; exact SqL.of (k3.get (fun z => z) hly)
    · rintro j x H3 hj ⟨e3, k3⟩
      rw [← List.map_append, List.getElem?_map] at hj
      obtain ⟨m, hm, rfl⟩ := Option.map_eq_some_iff.mp hj
      obtain ⟨b1, b2⟩ := low m (List.mem_of_getElem? hm)
      have hm' := (List.getElem?_eq_some_iff.mp hm).1
      rw [List.length_append] at hm'
      obtain ⟨n, rfl⟩ := Int.eq_ofNat_of_zero_le b1
      have hn : n < ds.length := by omega
      have hx : atI ((ds.take i).map V.int) (n : Int) = some (V.int ds[n]) := atI_get (n := n) (by rw [List.getElem?_map, List.getElem?_take_of_lt (by omega)]; simp [hn]) rfl
      have hl3 := k3.get (fun z => z) hlz
      repeat kaf_suf
      refine ⟨rfl, ?_⟩
      repeat kaf_suf
      refine ⟨_, e3, few1 (by simp; omega), ?_, k3.setN hD⟩
      rw [upd_same]
      have e : ((dps ds (g.1 ++ g.2)).map fun x => 1 + x)[j]? = some (1 + ds[n]) := by
        rw [List.getElem?_map, dps, List.getElem?_map, hm]; simp [hn]
      rw [List.take_succ, e]; simp
    · rintro H3 ⟨e3, k3⟩
      have e4 : H3 D = some (.lst (((dps ds (g.1 ++ g.2)).map fun x => 1 + x).map V.int)) := by
        rw [e3, List.take_of_length_le (by rw [hlen]; simp)]
      have hz3 := k3.get (fun z => z) hzz
      have hl3 := k3.get (fun z => z) hlz
      refine v_addL hz3 e4 (few2 (by simp [dps]; omega)) fun y2 hy2 => ?_
      have hl4 := ne_old hy2 hl3
      repeat kaf_suf
      refine v_maxL (ns := 0 :: (dps ds (g.1 ++ g.2)).map fun x => 1 + x) upd_same (by simp) fun m hm hmax => ?_
      repeat kaf_suf
      refine ⟨_, _, rfl, (((kk.trans kz).trans k3).new hy2).setN hl, ?_⟩
      have em : e = m := by
        obtain ⟨d1, d2, d3⟩ := dok.at_ i g e hg he
        have p0 := DOk.pos go dok (i + 1) i (by omega) e he
        have h1 : m ≤ e := by
          rcases List.mem_cons.mp hm with h | h
          · omega
          · obtain ⟨x, hx, rfl⟩ := List.mem_map.mp h
            have := d2 x hx; omega
        have h2 : e ≤ m := by
          by_cases z : g.1 ++ g.2 = []
          · have := d1 z
            have := hmax 0 List.mem_cons_self
            omega
          · obtain ⟨x, hx, ex⟩ := d3 z
            have := hmax (1 + x) (List.mem_cons_of_mem _ (List.mem_map.mpr ⟨x, hx, rfl⟩))
            omega
        omega
      rw [upd_same, List.take_succ, he, em]; simp
  · rintro σ H1 ⟨x2, x3, rfl, kk, e1⟩
    repeat kaf_suf
    rw [List.length_map, hkl, List.take_of_length_le (by omega)] at e1
    exact k H1 l kk e1
theorem cal_law_depths {c : Cn} {mg : Str → Option Value} {base : Heap} (T : Txt c mg) : Cal c.P c.w c.K mg base CX0 1 "_law_depths" (sp_law_depths c) := by
  obtain ⟨f, fd, F, g, b⟩ := T.F_law_depths
  exact ⟨f, fd, ["rows"], F.ok (k := 0) (N := N_law_depths) sc_law_depths (fun vs H Q E h => h.1) (fun cdv A outer s H vs Q E hr h => ⟨t_law_depths c, by
  exact (pss_cons (ps_set (i := 1) sc_law_depths.nd rfl (Or.inr rfl) (pe_lst pa_nil))
  (pss_cons (ps_for PassesOwn.never rfl (pi_any (pv 0)) (g_seq rfl (pgs_cons (pg_name (i := 2) sc_law_depths.nd rfl (Or.inl rfl)) (pgs_cons (pg_name (i := 3) sc_law_depths.nd rfl (Or.inl rfl)) pgs_nil)))
  (pss_one (ps_expr (pe_bm PySem.F.plainAttrs_list PySem.F.slot_list_append PySem.F.type_list_append mt_append (pv 1) (pa_cons (pe_callB (k_max rfl) (by rfl) T.n_max (by decide +kernel) (pa_cons (pe_op o_add (pe_lst (pa_cons pe_int pa_nil)) (pe_lc (own := [("g", 4)]) rfl sc_law_depths.nd (pi_any (pe_op o_add (pv 2) (pv 3))) (blkOk_by (own := [("g", 4)]) (N := N_law_depths) (sc := defScope s_law_depths) (by decide +kernel)) (fun _ _ _ _ _ => (pg_name (i := 4) sc_law_depths.nd rfl (Or.inl rfl))) (fun _ _ _ _ _ => pts_nil) (fun _ _ _ _ _ => (pe_op o_add pe_int (pe_ix (x_ix (hu64 hr)) (pv 1) (pv 4) (fun _ _ => rfl)))))) pa_nil)) pa_nil)))))
  (pss_one (ps_ret (pv 1))))), p_law_depths T h⟩), g, F.kp, b⟩

/-! slices -/
theorem v_slA {K : PySem.W.Frag} {H : Hp} {Q : VK} {l : Addr} {xs : List V} {lo hi : Option Int} (h : H l = some (.tup xs)) (k : ∀ p H', H' p = some (.tup (cutV xs lo hi)) → Keep Nil H H' → Q (.ref p) H') : bSl K (.ref l) lo hi H Q :=
  .inr ⟨l, xs, rfl, SqT.of h, fun e => k l H (by
    have : cutV xs lo hi = xs := by unfold cutV; rw [e.1, e.2]; simp
    rw [this]; exact h) Keep.refl, fun _ p hp => k p _ upd_same (Keep.alloc hp)⟩
theorem cutV_take (xs : List V) (k : Nat) : cutV xs none (some (k : Int)) = xs.take k := by
  unfold cutV
  rw [HT.sIx_nat, HT.sIx_none]
  simp only [List.drop_zero, Nat.sub_zero]
  by_cases h : k ≤ xs.length
  · rw [Nat.min_eq_left h]
  · rw [Nat.min_eq_right (by omega), List.take_of_length_le (Nat.le_refl _), List.take_of_length_le (by omega)]
theorem cutV_drop (xs : List V) (k : Nat) : cutV xs (some (k : Int)) none = xs.drop k := by
  unfold cutV
  rw [HT.sIx_nat, HT.sIx_none]
  by_cases h : k ≤ xs.length
  · rw [Nat.min_eq_left h, List.take_of_length_le (by rw [List.length_drop]; omega)]
  · rw [Nat.min_eq_right (by omega), List.drop_of_length_le (Nat.le_refl _), List.drop_of_length_le (by omega), List.take_nil]

/-! lists of truths -/
theorem dp_bls {K : PySem.W.Frag} {H : Hp} : ∀ (l : List Bool), DpAll K H (l.map V.bl) (l.map PyData.bool)
  | [] => .nil
  | x :: r => .cons (.bl x) (dp_bls r)
theorem eqv_bls1 : ∀ ns ms : List Bool, PyData.eqvAll (ns.map PyData.bool) (ms.map PyData.bool) = decide (ns = ms)
  | [], [] => by simp [PyData.eqvAll]
  | [], _ :: _ => by simp [PyData.eqvAll]
  | _ :: _, [] => by simp [PyData.eqvAll]
  | a :: r, b :: t => by
    simp only [List.map_cons, PyData.eqvAll, PyData.eqv, eqv_bls1 r t]
    cases a <;> cases b <;> by_cases h' : r = t <;> simp [h']
theorem eqv_bls (a b : List Bool) : PyData.eqv (.list (a.map PyData.bool)) (.list (b.map PyData.bool)) = decide (a = b) := by
  simp only [PyData.eqv]; exact eqv_bls1 a b
theorem lay_bls : ∀ ns : List Bool, PyData.canLayAll0 (ns.map PyData.bool) = true
  | [] => by simp [PyData.canLayAll0]
  | _ :: r => by simp [PyData.canLayAll0, PyData.canLay0, lay_bls r]
theorem dpt_bls : ∀ ns : List Bool, PyData.depthAll (ns.map PyData.bool) = 0
  | [] => by simp [PyData.depthAll]
  | _ :: r => by simp [PyData.depthAll, PyData.depth, dpt_bls r]
theorem bls_sh (l : List Bool) : SeqAt.shaped (.list (l.map PyData.bool)) = true := shaped_of (by simp only [PyData.canLay0]; exact lay_bls l) (by simp only [PyData.depth, dpt_bls]; omega)

/-! the kinds of what was caught: a refusal of a number -/
abbrev N_law_kinds : List Str := ["caught", "due", "kinds", "k"]
theorem sc_law_kinds : FnScope N_law_kinds ["caught", "due"] (defScope s_law_kinds) := ⟨rfl, rfl, rfl, by decide +kernel, rfl, by decide +kernel, by decide +kernel⟩
def t_law_kinds (c : Cn) : TS :=
  (tSeq (tAsg (tLst (tCons (tCB (uIsV c.K) (tCons (tVar 0) (tCons (tC (.ref c.cNoGame)) tNil))) (tCons (tCB (uIsV c.K) (tCons (tVar 0) (tCons (tC (.ref c.cNoBoard)) tNil))) (tCons (tCB (uIsV c.K) (tCons (tVar 0) (tCons (tC (.ref c.cNoName)) tNil))) tNil)))) (gName 2))
  (tSeq (tAsg (tOp (bAdd c.K) (tVar 2) (tLst (tCons (tCB (uIsV c.K) (tCons (tVar 0) (tCons (tC (.ref c.cNoNumber)) tNil))) (tCons (tCB (uIsV c.K) (tCons (tVar 0) (tCons (tC (.ref c.cNoRoad)) tNil))) (tCons (tCB (uIsV c.K) (tCons (tVar 0) (tCons (tC (.ref c.cNoRow)) tNil))) tNil))))) (gName 2))
  (tSeq (tAsg (tOp (bAdd c.K) (tVar 2) (tLst (tCons (tCB (uIsV c.K) (tCons (tVar 0) (tCons (tC (.ref c.cNoText)) tNil))) (tCons (tNotV (tCB (uIsV c.K) (tCons (tVar 0) (tCons (tC (.ty "ValueError")) tNil)))) tNil)))) (gName 2))
  (tRet (tAndV (tOp cIsNot (tVar 0) (tC .non)) (tOp (cEq c.K) (tVar 2) (tLc (iRng1 (tCons (tC (.int 8)) tNil)) (gName 3) tYes (tOp (cEq c.K) (tVar 3) (tVar 1)) [3])))))))
def sp_law_kinds (c : Cn) : Sp := fun vs H Q E => vs.length = 2 ∧ ∃ (a : Addr), vs = [.ref a, .int 0] ∧ H a = some (ExV (.ref c.cNoGame) a) ∧ ∀ H', Keep Nil H H' → Q (.bl true) H'
theorem p_law_kinds {c : Cn} {mg : Str → Option Value} (T : Txt c mg) {vs : List V} {H : Hp} {Q : VK} {E : XK} (h : sp_law_kinds c vs H Q E) : t_law_kinds c { nx := fun _ H' => Q .non H', rt := Q } (start N_law_kinds vs) H := by
  obtain ⟨_, a, rfl, ha, k⟩ := h
  unfold t_law_kinds
  have ex := Txt.e_NoGame T
  (repeat kaf_suf)
  refine v_isV ha ex (.own _) (Txt.i_NoGame_NoGame T) ?_
  (repeat kaf_suf)
  refine v_isV ha ex (.own _) (Txt.i_NoGame_NoBoard T) ?_
  (repeat kaf_suf)
  refine v_isV ha ex (.own _) (Txt.i_NoGame_NoName T) ?_
  (repeat kaf_suf)
  intro p1 hp1
  have ha1 := get_new (u := .lst [V.bl true, V.bl false, V.bl false]) hp1 ha
  (repeat kaf_suf)
  refine v_isV ha1 ex (.own _) (Txt.i_NoGame_NoNumber T) ?_
  (repeat kaf_suf)
  refine v_isV ha1 ex (.own _) (Txt.i_NoGame_NoRoad T) ?_
  (repeat kaf_suf)
  refine v_isV ha1 ex (.own _) (Txt.i_NoGame_NoRow T) ?_
  (repeat kaf_suf)
  intro p2 hp2
  (repeat kaf_suf)
  refine v_addL (by kaf_pre) (by kaf_pre) (few2 (by simp)) ?_
  intro p3 hp3
  have ha3 := get_new (u := .lst ([V.bl true, V.bl false, V.bl false] ++ [V.bl false, V.bl false, V.bl false])) hp3 (get_new (u := .lst [V.bl false, V.bl false, V.bl false]) hp2 ha1)
  (repeat kaf_suf)
  refine v_isV ha3 ex (.own _) (Txt.i_NoGame_NoText T) ?_
  (repeat kaf_suf)
  refine v_isV ha3 ex (.ty _) (Txt.iv_NoGame T) ?_
  (repeat kaf_suf)
  intro p4 hp4
  (repeat kaf_suf)
  refine v_addL (by kaf_pre) (by kaf_pre) (few2 (by simp)) ?_
  intro p5 hp5
  refine r_nx (absS (S := fun HT => Keep Nil H HT ∧ HT p5 = some (.lst (([true, false, false, false, false, false, false, false] : List Bool).map V.bl))) ⟨((((Keep.alloc hp1).new hp2).new hp3).new hp4).new hp5, upd_same⟩ fun H6 ⟨k6, e6⟩ => ?_)
  clear hp5 hp4 ha3 hp3 hp2 ha1 hp1
  (repeat kaf_suf)
  have nn : (!decide (V.ref a = V.non)) = true := by
    rw [decide_eq_false (fun z => by cases z)]; rfl
  rw [nn]
  (repeat kaf_suf)
  intro D hD
  refine lc_range (lo := 0) (n := (8 : Int).toNat) (fun i H' => H' D = some (.lst (((List.range i).map fun j => decide (j = 0)).map V.bl)) ∧ Keep Nil H6 H') ⟨upd_same, Keep.alloc hD⟩ ?_ ?_
  · rintro i H4 hi ⟨e4, k4⟩
    (repeat kaf_suf)
    refine ⟨rfl, ?_⟩
    (repeat kaf_suf)
    refine ⟨_, e4, few1 (by simp; omega), ?_, k4.setN hD⟩
    rw [upd_same, List.range_succ, List.map_append, List.map_append]
    have e : decide ((0 : Int) + (i : Int) = 0) = decide (i = 0) := by by_cases h : i = 0 <;> simp [h]
    rw [e]; rfl
  · rintro H4 ⟨e4, k4⟩
    have e0 : ((List.range (8 : Int).toNat).map fun j => decide (j = 0)) = [true, false, false, false, false, false, false, false] := by decide +kernel
    rw [e0] at e4
    refine v_eqD (d := .list (([true, false, false, false, false, false, false, false] : List Bool).map PyData.bool)) (e := .list (([true, false, false, false, false, false, false, false] : List Bool).map PyData.bool)) (.lst (SqL.of (k4.get (fun z => z) e6)) (dp_bls _)) (.lst (SqL.of e4) (dp_bls _)) (bls_sh _) (bls_sh _) ?_
    rw [eqv_bls, decide_eq_true rfl]
    (repeat kaf_suf)
    exact k _ (k6.trans k4)
theorem cal_law_kinds {c : Cn} {mg : Str → Option Value} {base : Heap} (T : Txt c mg) : Cal c.P c.w c.K mg base CX0 1 "_law_kinds" (sp_law_kinds c) := by
  obtain ⟨f, fd, F, g, b⟩ := T.F_law_kinds
  exact ⟨f, fd, ["caught", "due"], F.ok (k := 0) (N := N_law_kinds) sc_law_kinds (fun vs H Q E h => h.1) (fun cdv A outer s H vs Q E hr h => ⟨t_law_kinds c, by
  exact (pss_cons (ps_set (i := 2) sc_law_kinds.nd rfl (Or.inl rfl) (pe_lst (pa_cons (pe_callB k_isV (by rfl) T.n_isinstance (by decide +kernel) (pa_cons (pv 0) (pa_cons (pe_glob rfl T.g_NoGame rfl) pa_nil))) (pa_cons (pe_callB k_isV (by rfl) T.n_isinstance (by decide +kernel) (pa_cons (pv 0) (pa_cons (pe_glob rfl T.g_NoBoard rfl) pa_nil))) (pa_cons (pe_callB k_isV (by rfl) T.n_isinstance (by decide +kernel) (pa_cons (pv 0) (pa_cons (pe_glob rfl T.g_NoName rfl) pa_nil))) pa_nil)))))
  (pss_cons (ps_set (i := 2) sc_law_kinds.nd rfl (Or.inl rfl) (pe_op o_add (pv 2) (pe_lst (pa_cons (pe_callB k_isV (by rfl) T.n_isinstance (by decide +kernel) (pa_cons (pv 0) (pa_cons (pe_glob rfl T.g_NoNumber rfl) pa_nil))) (pa_cons (pe_callB k_isV (by rfl) T.n_isinstance (by decide +kernel) (pa_cons (pv 0) (pa_cons (pe_glob rfl T.g_NoRoad rfl) pa_nil))) (pa_cons (pe_callB k_isV (by rfl) T.n_isinstance (by decide +kernel) (pa_cons (pv 0) (pa_cons (pe_glob rfl T.g_NoRow rfl) pa_nil))) pa_nil))))))
  (pss_cons (ps_set (i := 2) sc_law_kinds.nd rfl (Or.inl rfl) (pe_op o_add (pv 2) (pe_lst (pa_cons (pe_callB k_isV (by rfl) T.n_isinstance (by decide +kernel) (pa_cons (pv 0) (pa_cons (pe_glob rfl T.g_NoText rfl) pa_nil))) (pa_cons (pe_not (pe_callB k_isV (by rfl) T.n_isinstance (by decide +kernel) (pa_cons (pv 0) (pa_cons (pe_bltn rfl T.n_ValueError (by decide +kernel) rfl) pa_nil)))) pa_nil)))))
  (pss_one (ps_ret (pe_and (pe_cmpR o_isnot (pv 0) pe_non (nomark _)) (pe_one (pe_cmpR (o_eq (hu64 hr)) (pv 2) (pe_lc (own := [("k", 3)]) rfl sc_law_kinds.nd (pi_range1 rfl T.n_range (pa_cons pe_int pa_nil)) (blkOk_by (own := [("k", 3)]) (N := N_law_kinds) (sc := defScope s_law_kinds) (by decide +kernel)) (fun _ _ _ _ _ => (pg_name (i := 3) sc_law_kinds.nd rfl (Or.inl rfl))) (fun _ _ _ _ _ => pts_nil) (fun _ _ _ _ _ => (pe_cmpR (o_eq (hu64 hr)) (pv 3) (pv 1) (nomark _)))) (nomark _))))))))), p_law_kinds T h⟩), g, F.kp, b⟩

abbrev N_law_asked : List Str := ["book", "way", "thing", "some", "other"]
theorem sc_law_asked : FnScope N_law_asked ["book", "way", "thing", "some", "other"] (defScope s_law_asked) := ⟨rfl, rfl, rfl, by decide +kernel, rfl, by decide +kernel, by decide +kernel⟩
def t_law_asked (c : Cn) (E : XK) : TS :=
  (tIfS (tTest (tOp (cEq c.K) (tVar 1) (tC (.int 0))))
  (tDrop (tMeth c.cBook "game" (sx_Book_game c) [] E (tVar 0) (tCons (tVar 3) (tCons (tVar 4) tNil))))
  (tIfS (tTest (tOp (cEq c.K) (tVar 1) (tC (.int 1))))
  (tDrop (tMeth c.cBook "game" (sx_Book_game c) [] E (tVar 0) (tCons (tVar 4) (tCons (tVar 3) tNil))))
  (tIfS (tTest (tOp (cEq c.K) (tVar 1) (tC (.int 2))))
  (tDrop (tMeth c.cBook "lefts" (sx_Book_lefts c) [] E (tVar 0) (tCons (tVar 2) tNil)))
  (tIfS (tTest (tOp (cEq c.K) (tVar 1) (tC (.int 3))))
  (tDrop (tMeth c.cBook "rights" (sx_Book_rights c) [] E (tVar 0) (tCons (tVar 2) tNil)))
  (tDrop (tMeth c.cBook "depth" (sx_Book_depth c) [] E (tVar 0) (tCons (tVar 2) tNil)))))))
def sp_law_asked (c : Cn) : Sp := fun vs H Q E => vs.length = 5 ∧ False
theorem p_law_asked {c : Cn} {mg : Str → Option Value} (T : Txt c mg) {vs : List V} {H : Hp} {Q : VK} {E : XK} (h : sp_law_asked c vs H Q E) : t_law_asked c E { nx := fun _ H' => Q .non H', rt := Q } (start N_law_asked vs) H := h.2.elim
/-- what is asked with what is no game -/
structure AskB (H : Hp) (n : Nat) (v : V) (s o : Addr) (M : Addr → Prop) : Prop where
  bad : BadV H n v
  ex : ∃ (xs : List V) (ys : List Int), H s = some (.lst xs) ∧ H o = some (.lst (ys.map V.int)) ∧ xs.length ≤ 4000 ∧ ys.length ≤ 4000 ∧ (∀ x ∈ xs, GoodV n x ∨ BadV H n x) ∧ (∃ x ∈ xs, BadV H n x) ∧ (∀ y ∈ ys, 0 ≤ y ∧ y < n)
def sy_law_asked (c : Cn) : Sp := fun vs H Q E => vs.length = 5 ∧ ∃ (b s o : Addr) (M : Addr → Prop) (gs : List Gm) (ds : List Int) (v : V) (way : Nat), vs = [.ref b, .int way, v, .ref s, .ref o] ∧ BookAt c H b M gs ds ∧ AskB H gs.length v s o M ∧ way ≤ 4 ∧ ∀ H', Keep Nil H H' → E (.ref c.cNoGame) none H'
theorem q_law_asked {c : Cn} {mg : Str → Option Value} (T : Txt c mg) {vs : List V} {H : Hp} {Q : VK} {E : XK} (h : sy_law_asked c vs H Q E) : t_law_asked c E { nx := fun _ H' => Q .non H', rt := Q } (start N_law_asked vs) H := by
  obtain ⟨_, b, s, o, M, gs, ds, v, way, rfl, B, A, hw, k⟩ := h
  obtain ⟨xs, ys, hs, ho, lx, ly, gx, bx, gy⟩ := A.ex
  obtain ⟨dx, mv, nm, dp, hb⟩ := B.ins_
  have gy' : ∀ x ∈ ys.map V.int, GoodV gs.length x ∨ BadV H gs.length x := fun x hx => by
    obtain ⟨y, hy, rfl⟩ := List.mem_map.mp hx
    exact .inl ⟨y, rfl, gy y hy⟩
  obtain ⟨x0, hx0, bx0⟩ := bx
  unfold t_law_asked
  have : way = 0 ∨ way = 1 ∨ way = 2 ∨ way = 3 ∨ way = 4 := by omega
  rcases this with rfl | rfl | rfl | rfl | rfl
  · (repeat kaf_suf)
    exact ⟨rfl, .inr ⟨rfl, b, s, o, M, gs, ds, xs, ys.map V.int, rfl, B, hs, ho, lx, by rw [List.length_map]; exact ly, fun x hx => (List.mem_append.mp hx).elim (gx x) (gy' x), ⟨x0, List.mem_append_left _ hx0, bx0⟩, k⟩⟩
  · (repeat kaf_suf)
    exact ⟨rfl, .inr ⟨rfl, b, o, s, M, gs, ds, ys.map V.int, xs, rfl, B, ho, hs, by rw [List.length_map]; exact ly, lx, fun x hx => (List.mem_append.mp hx).elim (gy' x) (gx x), ⟨x0, List.mem_append_right _ hx0, bx0⟩, k⟩⟩
  · (repeat kaf_suf)
    exact ⟨rfl, .inr ⟨rfl, b, M, gs, ds, v, rfl, B, A.bad, k H Keep.refl⟩⟩
  · (repeat kaf_suf)
    exact ⟨rfl, .inr ⟨rfl, b, M, gs, ds, v, rfl, B, A.bad, k H Keep.refl⟩⟩
  · (repeat kaf_suf)
    exact ⟨rfl, .inr ⟨rfl, b, M, gs, ds, v, rfl, B, A.bad, k H Keep.refl⟩⟩
def sx_law_asked (c : Cn) : Sp := fun vs H Q E => vs.length = 5 ∧ (sp_law_asked c vs H Q E ∨ sy_law_asked c vs H Q E)
theorem calx_law_asked {c : Cn} {mg : Str → Option Value} {base : Heap} (T : Txt c mg) : Cal c.P c.w c.K mg base (L2.CX c.P c.w) 4 "_law_asked" (sx_law_asked c) := by
  obtain ⟨f, fd, F, g, b⟩ := T.F_law_asked
  exact ⟨f, fd, ["book", "way", "thing", "some", "other"], F.okX (k := 3) (N := N_law_asked) sc_law_asked (fun vs H Q E h => h.1) (fun cdv A outer s H vs Q E hr h => ⟨t_law_asked c E, by
  exact (pss_one (ps_if (pt_cmpR (o_eq (hu64 hr)) (pv 1) pe_int (nomark _)) (pss_one (ps_expr (e_meth (metx_Book_game T) hr (by decide) (passes_call (takes_of rfl rfl rfl rfl) fun _ _ _ _ z => z) (pv 0) (pa_cons (pv 3) (pa_cons (pv 4) pa_nil))))) (pss_one (ps_if (pt_cmpR (o_eq (hu64 hr)) (pv 1) pe_int (nomark _)) (pss_one (ps_expr (e_meth (metx_Book_game T) hr (by decide) (passes_call (takes_of rfl rfl rfl rfl) fun _ _ _ _ z => z) (pv 0) (pa_cons (pv 4) (pa_cons (pv 3) pa_nil))))) (pss_one (ps_if (pt_cmpR (o_eq (hu64 hr)) (pv 1) pe_int (nomark _)) (pss_one (ps_expr (e_meth (metx_Book_lefts T) hr (by decide) (passes_call (takes_of rfl rfl rfl rfl) fun _ _ _ _ z => z) (pv 0) (pa_cons (pv 2) pa_nil)))) (pss_one (ps_if (pt_cmpR (o_eq (hu64 hr)) (pv 1) pe_int (nomark _)) (pss_one (ps_expr (e_meth (metx_Book_rights T) hr (by decide) (passes_call (takes_of rfl rfl rfl rfl) fun _ _ _ _ z => z) (pv 0) (pa_cons (pv 2) pa_nil)))) (pss_one (ps_expr (e_meth (metx_Book_depth T) hr (by decide) (passes_call (takes_of rfl rfl rfl rfl) fun _ _ _ _ z => z) (pv 0) (pa_cons (pv 2) pa_nil)))))))))))), h.2.elim (p_law_asked T) (q_law_asked T)⟩), g, F.kp, b⟩
theorem cal_law_asked {c : Cn} {mg : Str → Option Value} {base : Heap} (T : Txt c mg) : Cal c.P c.w c.K mg base (L2.CX c.P c.w) 4 "_law_asked" (sp_law_asked c) := by
  obtain ⟨f, fd, ps, F, g, kp, b⟩ := (calx_law_asked T).ex
  exact ⟨⟨f, fd, ps, F.imp fun vs H Q E h => ⟨h.1, .inl h⟩, g, kp, b⟩⟩
abbrev N_law_refused : List Str := ["book", "way", "thing", "some", "other", "caught", "e"]
theorem sc_law_refused : FnScope N_law_refused ["book", "way", "thing", "some", "other"] (defScope s_law_refused) := ⟨rfl, rfl, rfl, by decide +kernel, rfl, by decide +kernel, by decide +kernel⟩
def t_law_refused (c : Cn) : TS :=
  (tSeq (tAsg (tC .non) (gName 5))
  (tSeq (tTryV c.K (.ref c.cGameError) 6
    (tAsg (tVar 6) (gName 5))
    (fun W => (tDrop (tCallW (sx_law_asked c) W (tCons (tVar 0) (tCons (tVar 1) (tCons (tVar 2) (tCons (tVar 3) (tCons (tVar 4) tNil)))))))))
  (tRet (tCall (sp_law_kinds c) [] E0 (tCons (tVar 5) (tCons (tC (.int 0)) tNil))))))
def sp_law_refused (c : Cn) : Sp := fun vs H Q E => vs.length = 5 ∧ ∃ (b s o : Addr) (M : Addr → Prop) (gs : List Gm) (ds : List Int) (v : V) (way : Nat), vs = [.ref b, .int way, v, .ref s, .ref o] ∧ BookAt c H b M gs ds ∧ AskB H gs.length v s o M ∧ way ≤ 4 ∧ ∀ H', Keep Nil H H' → Q (.bl true) H'
theorem p_law_refused {c : Cn} {mg : Str → Option Value} (T : Txt c mg) {vs : List V} {H : Hp} {Q : VK} {E : XK} (h : sp_law_refused c vs H Q E) : t_law_refused c { nx := fun _ H' => Q .non H', rt := Q } (start N_law_refused vs) H := by
  obtain ⟨_, b, s, o, M, gs, ds, v, way, rfl, B, A, hw, k⟩ := h
  unfold t_law_refused
  (repeat kaf_suf)
  refine ⟨rfl, .inr ⟨rfl, b, s, o, M, gs, ds, v, way, rfl, B, A, hw, fun H1 k1 => w_val (Txt.m_NoGame T) fun a ha => ?_⟩⟩
  (repeat kaf_suf)
  exact ⟨rfl, a, rfl, upd_same, fun H2 k2 => k H2 ((k1.new ha).trans k2)⟩
theorem cal_law_refused {c : Cn} {mg : Str → Option Value} {base : Heap} (T : Txt c mg) : Cal c.P c.w c.K mg base CX0 6 "_law_refused" (sp_law_refused c) := by
  obtain ⟨f, fd, F, g, b⟩ := T.F_law_refused
  exact ⟨f, fd, ["book", "way", "thing", "some", "other"], F.ok (k := 5) (N := N_law_refused) sc_law_refused (fun vs H Q E h => h.1) (fun cdv A outer s H vs Q E hr h => ⟨t_law_refused c, by
  exact (pss_cons (ps_set (i := 5) sc_law_refused.nd rfl (Or.inl rfl) pe_non)
  (pss_cons (ps_tryV (i := 6) rfl rfl sc_law_refused.nd rfl rfl ⟨rfl, by decide, .inl T.g_GameError⟩ rfl
    (fun W pn xe tk po => (pss_one (ps_expr (e_callS (calx_law_asked T) hr (by decide) tk rfl (pa_cons (pv 0) (pa_cons (pv 1) (pa_cons (pv 2) (pa_cons (pv 3) (pa_cons (pv 4) pa_nil)))))))))
    (fun a oe pn => (pss_one (ps_set (i := 5) sc_law_refused.nd rfl (Or.inl rfl) (pv 6)))))
  (pss_one (ps_ret (e_call (cal_law_kinds T) hr (by decide) pass0 rfl (pa_cons (pv 5) (pa_cons pe_int pa_nil))))))), p_law_refused T h⟩), g, F.kp, b⟩

abbrev N_law : List Str := ["script", "deck", "book", "rows", "far", "last", "k", "turn", "many", "things", "thing", "good", "at", "some", "other", "way", "g"]
theorem sc_law : FnScope N_law ["script"] (defScope s_law) := ⟨rfl, rfl, rfl, by decide +kernel, rfl, by decide +kernel, by decide +kernel⟩
def t_law (c : Cn) : TS :=
  (tSeq (tAsg (tCall (sp_law_deck c) [] E0 (tCons (tVar 0) tNil)) (gName 1))
  (tSeq (tAsg (tMake c.cBook (sp_Book_init c) [] E0 tNil) (gName 2))
  (tSeq (tAsg (tCall (sp_law_grown c) [] E0 (tCons (tVar 1) (tCons (tVar 2) (tCons (tOp (bAdd c.K) (tC (.int 3)) (tCall (sp_law_draw c) [] E0 (tCons (tVar 1) (tCons (tC (.int 10)) tNil)))) tNil)))) (gName 3))
  (tSeq (tIfS (tTest (tOp cIs (tVar 3) (tC .non)))
  (tRet (tC (.bl false)))
  tNext)
  (tSeq (tAsg (tMake c.cBook (sp_Book_init c) [] E0 tNil) (gName 4))
  (tSeq (tAsg (tC (.int 0)) (gName 5))
  (tSeq (tFor (iRng1 (tCons (tOp (bAdd c.K) (tCB (kLen c.K) (tCons (tVar 3) tNil)) (tC (.int 3))) tNil)) (gName 6)
  (tAsg (tMeth c.cBook "game" (sp_Book_game c) [] E0 (tVar 4) (tCons (tLst (tCons (tVar 5) tNil)) (tCons (tLst tNil) tNil))) (gName 5)))
  (tSeq (tFor (iRng1 (tCons (tC (.int 12)) tNil)) (gName 7)
  (tSeq (tAsg (tCB (kLen c.K) (tCons (tVar 3) tNil)) (gName 8))
  (tSeq (tAsg (tLst (tCons (tC (.bl true)) (tCons (tC (.bl false)) (tCons (tC .non) (tCons (tC (.str "0")) (tCons (tC (.str "")) (tCons (tTup (tCons (tC (.int 0)) tNil)) (tCons (tLst (tCons (tC (.int 0)) tNil)) (tCons (uDNew c.P c.w) (tCons (tUn (rU fun i => .int (-i)) (tC (.int 1))) (tCons (tVar 8) (tCons (tVar 5) (tCons (tUn (rU fun i => .int (-i)) (tOp bPow (tC (.int 10)) (tC (.int 29)))) (tCons (tOp (bAdd c.K) (tOp bPow (tC (.int 10)) (tC (.int 29))) (tVar 8)) (tCons (tTup tNil) (tCons (tOp (bAdd c.K) (tVar 8) (tC (.int 1))) tNil)))))))))))))))) (gName 9))
  (tSeq (tAsg (tOp (bIx c.P c.w c.K) (tVar 9) (tCall (sp_law_draw c) [] E0 (tCons (tVar 1) (tCons (tC (.int 15)) tNil)))) (gName 10))
  (tSeq (tAsg (tCall (sp_law_moves c) [] E0 (tCons (tVar 1) (tCons (tVar 8) tNil))) (gName 11))
  (tSeq (tAsg (tCall (sp_law_draw c) [] E0 (tCons (tVar 1) (tCons (tOp (bAdd c.K) (tCB (kLen c.K) (tCons (tVar 11) tNil)) (tC (.int 1))) tNil))) (gName 12))
  (tSeq (tAsg (tOp (bAdd c.K) (tOp (bAdd c.K) (tSl (bSl c.K) (tVar 11) tNoPart (tPart (tVar 12))) (tLst (tCons (tVar 10) tNil))) (tSl (bSl c.K) (tVar 11) (tPart (tVar 12)) tNoPart)) (gName 13))
  (tSeq (tAsg (tCall (sp_law_moves c) [] E0 (tCons (tVar 1) (tCons (tVar 8) tNil))) (gName 14))
  (tSeq (tFor (iRng1 (tCons (tC (.int 5)) tNil)) (gName 15)
  (tIfS (tOr (tNot (tTru c.K (tCall (sp_law_refused c) [] E0 (tCons (tVar 2) (tCons (tVar 15) (tCons (tVar 10) (tCons (tCB (kList c.K) (tCons (tVar 13) tNil)) (tCons (tCB (kList c.K) (tCons (tVar 14) tNil)) tNil)))))))) (tTest (tOp (cNe c.K) (tMeth c.cBook "many" (sp_Book_many c) [] E0 (tVar 2) tNil) (tVar 8))))
  (tRet (tC (.bl false)))
  tNext))
  (tIfS (tTest (tOp (cEq c.K) (tOp bMod (tVar 7) (tC (.int 4))) (tC (.int 3))))
  (tSeq (tIfS (tTest (tOp (cNe c.K) (tMeth c.cBook "game" (sp_Book_game c) [] E0 (tVar 2) (tCons (tLst (tCons (tOp bSub (tVar 8) (tC (.int 1))) tNil)) (tCons (tLst (tCons (tOp bSub (tVar 8) (tC (.int 1))) tNil)) tNil))) (tVar 8)))
  (tRet (tC (.bl false)))
  tNext)
  (tDrop (tBM c.K "list" rAppend (tVar 3) (tCons (tTup (tCons (tLst (tCons (tOp bSub (tVar 8) (tC (.int 1))) tNil)) (tCons (tLst (tCons (tOp bSub (tVar 8) (tC (.int 1))) tNil)) tNil))) tNil))))
  tNext))))))))))
  (tSeq (tIfS (tTest (tOp (cNe c.K) (tLc (iRng1 (tCons (tCB (kLen c.K) (tCons (tVar 3) tNil)) tNil)) (gName 16) tYes (tMeth c.cBook "depth" (sp_Book_depth c) [] E0 (tVar 2) (tCons (tVar 16) tNil)) [16]) (tCall (sp_law_depths c) [] E0 (tCons (tVar 3) tNil))))
  (tRet (tC (.bl false)))
  tNext)
  (tRet (tOp (cEq c.K) (tLc (iRng1 (tCons (tCB (kLen c.K) (tCons (tVar 3) tNil)) tNil)) (gName 16) tYes (tTup (tCons (tMeth c.cBook "lefts" (sp_Book_lefts c) [] E0 (tVar 2) (tCons (tVar 16) tNil)) (tCons (tMeth c.cBook "rights" (sp_Book_rights c) [] E0 (tVar 2) (tCons (tVar 16) tNil)) tNil))) [16]) (tVar 3))))))))))))
theorem atI_last' {xs : List V} {v : V} (h : xs[xs.length - 1]? = some v) (p : 0 < xs.length) : atI xs (-1) = some v := by
  unfold atI ixN
  rw [if_neg (by decide), if_pos (by omega)]
  have e1 : ((-1 : Int) + (xs.length : Int)).toNat = xs.length - 1 := by omega
  rw [e1]; exact h
theorem eqv_rows : ∀ gs : List Gm, PyData.eqvAll (gs.map dRow) (gs.map dRow) = true
  | [] => by simp [PyData.eqvAll]
  | g :: r => by simp [PyData.eqvAll, eqv_dRow, eqv_rows r]
theorem last_new {gs : List Gm} (o : GOk gs) {k : Gm} {i : Nat} (hi : gs.length = i + 1) (hk : (i : Int) ∈ k.1 ++ k.2) : k ∉ gs := fun hm => by
  have h := o.low (gs.idxOf k) k (ixG_get hm) _ hk
  have l := List.idxOf_lt_length_of_mem hm
  omega
theorem addG_new {gs : List Gm} {k : Gm} (h : k ∉ gs) : addG gs k = gs ++ [k] ∧ ixG (gs ++ [k]) k = gs.length := by
  refine ⟨by rw [addG, if_neg h], ?_⟩
  rw [ixG, List.idxOf_append, if_neg h]
  simp
theorem take_map_succ {l : List Int} {i : Nat} (h : i < l.length) : (l.take (i + 1)).map V.int = (l.take i).map V.int ++ [V.int l[i]] := by
  rw [List.take_succ, List.getElem?_eq_getElem h, List.map_append]; rfl
def sp_law_law (K : PySem.W.Frag) : Sp := fun vs H Q E => vs.length = 1 ∧ ∃ (a : Addr) (ns : List Int), vs = [.ref a] ∧ SqL K H a (ns.map V.int) ∧ ns.length ≤ 63 ∧ ∀ H', Q (.bl true) H'
theorem p_law {c : Cn} {mg : Str → Option Value} (T : Txt c mg) {vs : List V} {H : Hp} {Q : VK} {E : XK} (h : sp_law_law c.K vs H Q E) : t_law c { nx := fun _ H' => Q .non H', rt := Q } (start N_law vs) H := by
  obtain ⟨_, a, ns, rfl, hs, few, k⟩ := h
  unfold t_law
  repeat kaf_suf
  refine ⟨rfl, a, ns, rfl, hs, few, fun H1 d MD k1 D1 nD => ?_⟩
  repeat kaf_suf
  intro b dx hb hdx ndx
  repeat kaf_suf
  refine ⟨rfl, b, dx, rfl, upd_same, fun H2 MB k2 B2 nB => ⟨rfl, ?_⟩⟩
  have nbD : ∀ x, MB x → ¬ MD x := fun x h z => by
    have h0 := none_of_upd (none_of_upd (nB x h))
    exact D1.dom z h0
  have D2 : DeckAt H2 d MD := (D1.keep (Keep.new (Keep.alloc (o := .own b) hdx) (by rw [upd_ne (fun z => ndx z.symm)]; exact hb)) fun _ _ z => z).keep k2 fun x h z => D1.dom h (by rw [z]; exact hb)
  repeat kaf_suf
  refine ⟨rfl, d, 10, MD, rfl, by decide, by decide, D2, fun H3 n k3 D3 n0 n1 => ?_⟩
  have B3 := B2.keep k3 (fun _ h => D2.cell h) nbD
  repeat kaf_suf
  refine ⟨rfl, d, b, _, MD, MB, rfl, by omega, by omega, D3, B3, nbD, fun H4 R gs ds L4 hg => ?_⟩
  clear D3 B3 k3 D2 B2 nB k2 hb hdx k1 D1 nD
  have pos := L4.B.pos
  have go := L4.B.ok
  obtain ⟨ks4, hks4, pks4⟩ := id L4.rows
  have hkm : (ks4.map V.ref).length = gs.length := by rw [List.length_map, Paired.length pks4]
  repeat kaf_suf
  refine r_iteF' (p := V.ref R = V.non) (fun z => by cases z) ?_
  (repeat kaf_suf)
  intro fb fdx hfb hfdx nfdx
  (repeat kaf_suf)
  refine ⟨rfl, fb, fdx, rfl, upd_same, fun H5 MF k5 BF nF => ⟨rfl, ?_⟩⟩
  have k45 : Keep Nil H4 H5 := fun a o _ h => k5 a o (ne_old hfb h) (get_set (ne_old hfb h) (get_new hfdx h))
  have hks5 := k45.get (fun z => z) hks4
  clear k5 hfb hfdx
  (repeat kaf_suf)
  refine for_range (lo := 0) (n := (((ks4.map V.ref).length : Int) + 3).toNat) (fun i σ H' => ∃ (x6 : Option V) (fgs : List Gm) (fds : List Int), σ = [some (.ref a), some (.ref d), some (.ref b), some (.ref R), some (.ref fb), some (.int (i : Nat)), x6, none, none, none, none, none, none, none, none, none, none] ∧ Keep MF H5 H' ∧ BookAt c H' fb MF fgs fds ∧ fgs.length = i + 1) ⟨_, [([], [])], [0], rfl, Keep.refl, BF, rfl⟩ ?_ ?_
  · rintro i σ H6 hi ⟨x6, fgs, fds, rfl, k6, B6, hl6⟩
    obtain ⟨bx, bm, bn, bd, hbk⟩ := B6.ins_
    (repeat kaf_suf)
    intro p1 hp1
    (repeat kaf_suf)
    intro p2 hp2
    (repeat kaf_suf)
    have kk : Keep Nil H6 (upd (upd H6 p1 (.lst [.int (i : Nat)])) p2 (.lst [])) := (Keep.alloc hp1).new hp2
    refine ⟨rfl, fb, p1, p2, MF, fgs, fds, [(i : Int)], [], rfl, B6.same kk, by kaf_pre, by kaf_pre, B6.new hp1, B6.new (none_of_upd hp2), by omega, by simp, by simp, fun x hx => ?_, fun H7 e k7 B7 => ?_⟩
    · have : x = i := by simpa using hx
      omega
    obtain ⟨n1, n2⟩ := addG_new (last_new B6.ok hl6 (k := (canon [(i : Int)], canon [])) (by simp [canon, ins]))
    rw [n1] at B7 ⊢
    rw [n2, hl6]
    (repeat kaf_suf)
    exact ⟨_, _, _, rfl, k6.trans (kk.weak.trans k7), B7, by simp [hl6]⟩
  rintro σ H6 ⟨x6, fgs, fds, rfl, k6, B6, hl6⟩
  have k46 : Keep Nil H4 H6 := fun x o _ h => k6 x o (fun z => by have := none_of_upd (none_of_upd (nF x z)); rw [h] at this; cases this) (k45 x o (fun z => z) h)
  have L6 := L4.same k46
  obtain ⟨last, hlast⟩ : ∃ z : Int, z = ((((ks4.map V.ref).length : Int) + 3).toNat : Nat) := ⟨_, rfl⟩
  rw [← hlast]
  have hlast2 : last = (gs.length : Int) + 3 := by omega
  clear hlast k46 k6 B6 hl6 nF BF k45 hks5 L4 pks4 hks4 hkm
  (repeat kaf_suf)
  refine for_range (lo := 0) (n := (12 : Int).toNat) (fun i σ H' => ∃ (x6 x7 x8 x9 x10 x11 x12 x13 x14 x15 : Option V) (gt : List Gm) (et : List Int), σ = [some (.ref a), some (.ref d), some (.ref b), some (.ref R), some (.ref fb), some (.int last), x6, x7, x8, x9, x10, x11, x12, x13, x14, x15, none] ∧ Lv c H' d b R MD MB gt gt et ∧ gt.length = gs.length + i / 4) ⟨_, _, _, _, _, _, _, _, _, _, gs, ds, rfl, L6, by simp⟩ ?_ ?_
  · rintro i σ H7 hi ⟨x6, x7, x8, x9, x10, x11, x12, x13, x14, x15, gt, et, rfl, L7, hgl⟩
    have hi12 : i < 12 := hi
    obtain ⟨ks7, hks7, pks7⟩ := id L7.rows
    have hkm : ((ks7.map V.ref).length : Int) = gt.length := by rw [List.length_map, Paired.length pks7]
    obtain ⟨bx7, bm7, bn7, bd7, hb7⟩ := L7.B.ins_
    (repeat kaf_suf)
    generalize ((ks7.map V.ref).length : Int) = many at hkm ⊢
    intro p1 hp1
    (repeat kaf_suf)
    intro p2 hp2
    (repeat kaf_suf)
    refine .inl ⟨true, fun p3 hp3 => ?_⟩
    rw [if_pos rfl]
    (repeat kaf_suf)
    intro p4 hp4
    (repeat kaf_suf)
    intro p5 hp5
    have b29 : (1 : Int) ≤ 10 ^ (29 : Int).toNat := by decide +kernel
    generalize (10 : Int) ^ (29 : Int).toNat = big at b29 hp5 ⊢
    have w1 := L7.new hp1
    have w2 := L7.new (none_of_upd hp2)
    have w3 := L7.new (none_of_upd (none_of_upd hp3))
    have w4 := L7.new (none_of_upd (none_of_upd (none_of_upd hp4)))
    have w5 := L7.new (none_of_upd (none_of_upd (none_of_upd (none_of_upd hp5))))
    refine r_gname (r_nx (absS (S := fun HT => Keep Nil H7 HT ∧ HT p1 = some (.tup [.int 0]) ∧ HT p2 = some (.lst [.int 0]) ∧ HT p3 = some (.dK []) ∧ HT p4 = some (.tup []) ∧ HT p5 = some (.lst [V.bl true, V.bl false, V.non, V.str "0", V.str "", V.ref p1, V.ref p2, V.ref p3, V.int (-1), V.int many, V.int last, V.int (-big), V.int (big + many), V.ref p4, V.int (many + 1)])) ⟨((((Keep.alloc hp1).new hp2).new hp3).new hp4).new hp5, by kaf_pre, by kaf_pre, by kaf_pre, by kaf_pre, upd_same⟩ fun H8 ⟨k8, t1, t2, t3, t4, e8⟩ => ?_))
    have L8 := L7.same k8
    have gp := L8.B.pos
    have hx8 : ∀ u : Int, 0 ≤ u → u < 15 → ∃ v, atI [V.bl true, V.bl false, V.non, V.str "0", V.str "", V.ref p1, V.ref p2, V.ref p3, V.int (-1), V.int many, V.int last, V.int (-big), V.int (big + many), V.ref p4, V.int (many + 1)] u = some v ∧ ∀ H'', Keep (Wd MD MB R) H8 H'' → BadV H'' gt.length v := fun u u0 u1 => by
      have : u = 0 ∨ u = 1 ∨ u = 2 ∨ u = 3 ∨ u = 4 ∨ u = 5 ∨ u = 6 ∨ u = 7 ∨ u = 8 ∨ u = 9 ∨ u = 10 ∨ u = 11 ∨ u = 12 ∨ u = 13 ∨ u = 14 := by omega
      rcases this with rfl | rfl | rfl | rfl | rfl | rfl | rfl | rfl | rfl | rfl | rfl | rfl | rfl | rfl | rfl
      · exact ⟨_, rfl, fun _ _ => .bl _⟩
      · exact ⟨_, rfl, fun _ _ => .bl _⟩
      · exact ⟨_, rfl, fun _ _ => .non⟩
      · exact ⟨_, rfl, fun _ _ => .str _⟩
      · exact ⟨_, rfl, fun _ _ => .str _⟩
      · exact ⟨_, rfl, fun _ k => .tup (k _ _ w1 t1)⟩
      · exact ⟨_, rfl, fun _ k => .lst (k _ _ w2 t2)⟩
      · exact ⟨_, rfl, fun _ k => .dic (k _ _ w3 t3)⟩
      · exact ⟨_, rfl, fun _ _ => .int (.inl (by decide))⟩
      · exact ⟨_, rfl, fun _ _ => .int (.inr (by omega))⟩
      · exact ⟨_, rfl, fun _ _ => .int (.inr (by omega))⟩
      · exact ⟨_, rfl, fun _ _ => .int (.inl (by omega))⟩
      · exact ⟨_, rfl, fun _ _ => .int (.inr (by omega))⟩
      · exact ⟨_, rfl, fun _ k => .tup (k _ _ w4 t4)⟩
      · exact ⟨_, rfl, fun _ _ => .int (.inr (by omega))⟩
    generalize [V.bl true, V.bl false, V.non, V.str "0", V.str "", V.ref p1, V.ref p2, V.ref p3, V.int (-1), V.int many, V.int last, V.int (-big), V.int (big + many), V.ref p4, V.int (many + 1)] = xs at e8 hx8 ⊢
    clear t1 t2 t3 t4 w1 w2 w3 w4 hp1 hp2 hp3 hp4 hp5 k8 hks7 pks7 hb7 L7
    (repeat kaf_suf)
    refine ⟨rfl, d, 15, MD, rfl, by decide, by decide, L8.D, fun H9 u k9 D9 u0 u1 => ?_⟩
    obtain ⟨v, hv, bv⟩ := hx8 u u0 u1
    have L9 := L8.draw k9 D9
    have e9 := k9 _ _ (fun z => w5 (.inl z)) e8
    clear hx8 e8
    (repeat kaf_suf)
    refine ⟨rfl, d, _, MD, rfl, by omega, by omega, L9.D, fun H10 gl good k10 D10 ngl hgl10 ll lb => ?_⟩
    have L10 := L9.draw k10 D10
    have nglW := L9.new ngl
    have gll : (good.map V.int).length = good.length := List.length_map _
    (repeat kaf_suf)
    refine ⟨rfl, d, _, MD, rfl, by omega, by omega, L10.D, fun H11 at_ k11 D11 at0 at1 => ?_⟩
    have L11 := L10.draw k11 D11
    have hgl11 := k11 _ _ (fun z => nglW (.inl z)) hgl10
    obtain ⟨an, rfl⟩ := Int.eq_ofNat_of_zero_le at0
    have l1 : ((good.map V.int).take an).length ≤ 4 := by rw [List.length_take]; omega
    have l2 : ((good.map V.int).drop an).length ≤ 4 := by rw [List.length_drop]; omega
    (repeat kaf_suf)
    refine v_slL (by kaf_pre) fun q1 hq1 => ?_
    rw [cutV_take]
    (repeat kaf_suf)
    intro q2 hq2
    (repeat kaf_suf)
    intro q3 hq3
    (repeat kaf_suf)
    refine v_slL (by kaf_pre) fun q4 hq4 => ?_
    rw [cutV_drop]
    (repeat kaf_suf)
    intro q5 hq5
    have nq5 := L11.new (none_of_upd (none_of_upd (none_of_upd (none_of_upd hq5))))
    refine r_gname (r_nx (absS (S := fun HT => Keep Nil H11 HT ∧ HT q5 = some (.lst ((good.map V.int).take an ++ [v] ++ (good.map V.int).drop an))) ⟨((((Keep.alloc hq1).new hq2).new hq3).new hq4).new hq5, upd_same⟩ fun H12 ⟨k12, e12⟩ => ?_))
    have L12 := L11.same k12
    clear hq1 hq2 hq3 hq4 hq5 hgl11 hgl10 e9
    (repeat kaf_suf)
    refine ⟨rfl, d, _, MD, rfl, by omega, by omega, L12.D, fun H13 ol other k13 D13 nol hol ol4 ob => ?_⟩
    have L13 := L12.draw k13 D13
    have e13 := k13 _ _ (fun z => nq5 (.inl z)) e12
    have kw : Keep (Wd MD MB R) H8 H13 := (((k9.mono fun _ h => .inl h).trans (k10.mono fun _ h => .inl h)).trans ((k11.mono fun _ h => .inl h).trans k12.weak)).trans (k13.mono fun _ h => .inl h)
    clear k9 D9 k10 D10 k11 D11 k12 D13 e12 L8 L9 L10 L11 L12 nol ngl
    have bv13 := fun H'' (k : Keep Nil H13 H'') => bv H'' (kw.trans k.weak)
    have tg : ∀ x ∈ (good.map V.int).take an ++ [v] ++ (good.map V.int).drop an, GoodV gt.length x ∨ x = v := fun x hx => by
      have gd : x ∈ good.map V.int → GoodV gt.length x := fun h => by
        obtain ⟨y, hy, rfl⟩ := List.mem_map.mp h
        obtain ⟨y0, y1⟩ := lb y hy
        exact ⟨y, rfl, y0, by omega⟩
      rcases List.mem_append.mp hx with hx | hx
      · rcases List.mem_append.mp hx with hx | hx
        · exact .inl (gd (List.mem_of_mem_take hx))
        · exact .inr (List.mem_singleton.mp hx)
      · exact .inl (gd (List.mem_of_mem_drop hx))
    have tv : v ∈ (good.map V.int).take an ++ [v] ++ (good.map V.int).drop an := List.mem_append_left _ (List.mem_append_right _ (List.mem_singleton.mpr rfl))
    have tl : ((good.map V.int).take an ++ [v] ++ (good.map V.int).drop an).length ≤ 4000 := by simp only [List.length_append, List.length_cons, List.length_nil]; omega
    generalize (good.map V.int).take an ++ [v] ++ (good.map V.int).drop an = some_ at e13 tg tv tl ⊢
    clear kw bv l1 l2 gll k13
    (repeat kaf_suf)
    refine for_range (lo := 0) (n := (5 : Int).toNat) (fun j σ H' => ∃ x15 : Option V, σ = [some (.ref a), some (.ref d), some (.ref b), some (.ref R), some (.ref fb), some (.int last), x6, some (.int (0 + (i : Int))), some (.int many), some (.ref p5), some v, some (.ref gl), some (.int an), some (.ref q5), some (.ref ol), x15, none] ∧ Keep Nil H13 H') ⟨_, rfl, Keep.refl⟩ ?_ ?_
    · rintro j σ H' hj ⟨x15, rfl, kj⟩
      have hj5 : j < 5 := hj
      have ej := kj.get (fun z => z) e13
      have oj := kj.get (fun z => z) hol
      have Bj := L13.B.same kj
      (repeat kaf_suf)
      intro s1 hs1
      (repeat kaf_suf)
      intro o1 ho1
      have kk := (Keep.alloc (M := Nil) (o := .lst some_) hs1).new (o := .lst (other.map V.int)) ho1
      (repeat kaf_suf)
      refine ⟨rfl, b, s1, o1, MB, gt, et, v, j, by rw [Int.zero_add], Bj.same kk, ⟨bv13 _ (kj.trans kk), some_, other, by kaf_pre, by kaf_pre, tl, by omega, fun x hx => (tg x hx).elim .inl fun (e : x = v) => .inr (by rw [e]; exact bv13 _ (kj.trans kk)), ⟨v, tv, bv13 _ (kj.trans kk)⟩, fun y hy => by have := ob y hy; omega⟩, by omega, fun H14 k14 => ?_⟩
      have B14 := (Bj.same kk).same k14
      obtain ⟨bx, bm, bn, bd, hbk⟩ := B14.ins_
      (repeat kaf_suf)
      refine ⟨rfl, b, MB, gt, et, rfl, B14, ?_⟩
      (repeat kaf_suf)
      exact ⟨_, rfl, kj.trans (kk.trans k14)⟩
    · rintro σ H14 ⟨x15, rfl, k14⟩
      have L14 := L13.same k14
      obtain ⟨ks14, hks14, pks14⟩ := id L14.rows
      obtain ⟨bx, bm, bn, bd, hbk⟩ := L14.B.ins_
      clear e13 hol k14 L13 bv13 tg tv tl
      (repeat kaf_suf)
      refine r_ite (fun h3 => ?_) fun h3 => ?_
      · (repeat kaf_suf)
        intro p1 hp1
        (repeat kaf_suf)
        intro p2 hp2
        have kk := (Keep.alloc (M := Nil) (o := .lst [.int (many - 1)]) hp1).new (o := .lst [.int (many - 1)]) hp2
        (repeat kaf_suf)
        refine ⟨rfl, b, p1, p2, MB, gt, et, [many - 1], [many - 1], rfl, L14.B.same kk, by kaf_pre, by kaf_pre, L14.B.new hp1, L14.B.new (none_of_upd hp2), by omega, by simp, by simp, fun x hx => ?_, fun H15 e k15 B15 => ?_⟩
        · have : x = many - 1 := by simpa using hx
          omega
        obtain ⟨n1, n2⟩ := addG_new (last_new L14.B.ok (i := gt.length - 1) (by omega) (k := (canon [many - 1], canon [many - 1])) (by rw [show ((gt.length - 1 : Nat) : Int) = many - 1 by omega]; simp [canon, ins]))
        have L15 := (L14.same kk).game k15 B15
        have hks15 := k15 _ _ L14.s3 (kk.get (fun z => z) hks14)
        rw [n1] at L15 ⊢
        rw [n2]
        clear kk k15 B15 hp1 hp2 hks14 pks14 L14 hbk
        (repeat kaf_suf)
        intro p3 hp3
        (repeat kaf_suf)
        intro p4 hp4
        (repeat kaf_suf)
        intro p5 hp5
        (repeat kaf_suf)
        have rl : ks14.length ≤ 100 := by
          obtain ⟨ks, e, p⟩ := L15.rows
          rw [hks15] at e
          have q := Paired.length p
          have e2 : ks14.map V.ref = ks.map V.ref := by injection e with e; injection e
          have e3 := congrArg List.length e2
          rw [List.length_map, List.length_map] at e3
          omega
        refine v_append (by kaf_pre) (few1 (by rw [List.length_map]; omega)) ?_
        have kk := ((Keep.alloc (M := Nil) (o := .lst [.int (many - 1)]) hp3).new (o := .lst [.int (many - 1)]) hp4).new (o := .tup [.ref p3, .ref p4]) hp5
        have rt : RowAt (Wd MD MB R) _ p5 (canon [many - 1], canon [many - 1]) := ⟨p3, p4, upd_same, get_new hp5 (get_new hp4 upd_same), get_new hp5 upd_same, L15.new (none_of_upd (none_of_upd hp5)), L15.new hp3, L15.new (none_of_upd hp4)⟩
        have L16 := (L15.same kk).push (kk.get (fun z => z) hks15) rt
        exact ⟨_, _, _, _, _, _, _, _, _, _, _, _, rfl, L16, by rw [List.length_append, hgl]; simp only [List.length_singleton]; omega⟩
      · (repeat kaf_suf)
        exact ⟨_, _, _, _, _, _, _, _, _, _, gt, et, rfl, L14, by omega⟩
  · rintro σ H7 ⟨x6, x7, x8, x9, x10, x11, x12, x13, x14, x15, gt, et, rfl, L7, hgl⟩
    have hgl' : gt.length = gs.length + 3 := hgl
    obtain ⟨ks7, hks7, pks7⟩ := id L7.rows
    have hkm7 : (ks7.map V.ref).length = gt.length := by rw [List.length_map, Paired.length pks7]
    obtain ⟨bx7, bm7, bn7, bd7, hb7⟩ := L7.B.ins_
    have hdl := L7.B.dok.len
    (repeat kaf_suf)
    intro F hF
    refine lc_range (lo := 0) (n := ((ks7.map V.ref).length : Int).toNat) (fun i H' => H' F = some (.lst ((et.take i).map V.int)) ∧ Keep Nil H7 H') ⟨upd_same, Keep.alloc hF⟩ ?_ ?_
    · rintro i H8 hi ⟨e5, k5⟩
      have B5 := L7.B.same k5
      obtain ⟨bx5, bm5, bn5, bd5, hb5⟩ := B5.ins_
      have hi' : i < et.length := by omega
      (repeat kaf_suf)
      refine ⟨rfl, ?_⟩
      (repeat kaf_suf)
      refine ⟨rfl, b, MB, gt, et, i, et[i], by rw [Int.zero_add], B5, List.getElem?_eq_getElem hi', ?_⟩
      refine ⟨_, e5, few1 (by simp; omega), ?_, k5.setN hF⟩
      rw [upd_same, take_map_succ hi']
    rintro H8 ⟨e8, k8⟩
    have f8 : H8 F = some (.lst (et.map V.int)) := by rw [e8, List.take_of_length_le (by omega)]
    have L8 := L7.same k8
    have glm : ∀ g ∈ gt, g.1.length ≤ 900 ∧ g.2.length ≤ 900 := fun g hg' => by
      obtain ⟨i, hi⟩ := List.getElem?_of_mem hg'
      exact gm_len L8.B hi (by omega)
    (repeat kaf_suf)
    refine ⟨rfl, R, _, gt, et, rfl, L8.rows, L8.B.ok, L8.B.dok, by omega, glm, fun H1 l k1 hl1 => ?_⟩
    have L1 : Lv c H1 d b R MD MB gt (gt ++ []) et := by rw [List.append_nil]; exact L8.same k1
    have f1 := k1.get (fun z => z) f8
    refine v_neD (dp_ints f1) (dp_ints hl1) (dInts_sh _) (dInts_sh _) ?_
    rw [eqv_dInts, decide_eq_true rfl]
    obtain ⟨ks1, hks1, pks1⟩ := id L1.rows
    have hkm1 : (ks1.map V.ref).length = gt.length := by rw [List.length_map, Paired.length pks1]
    clear e8 hF hb7 k8 hks7 pks7
    (repeat kaf_suf)
    intro D5 hD5
    refine lc_range (lo := 0) (n := ((ks1.map V.ref).length : Int).toNat) (fun j H' => ∃ qs : List Addr, H' D5 = some (.lst (qs.map V.ref)) ∧ Paired (RowAt (fun x => x = D5) H') qs (gt.take j) ∧ Keep Nil H1 H') ⟨[], upd_same, .nil, Keep.alloc hD5⟩ ?_ ?_
    · rintro j H2 hj ⟨qs, e2, pq, k2⟩
      have hj' : j < gt.length := by omega
      have hgj : (gt ++ [])[j]? = some gt[j] := by rw [List.getElem?_append_left hj']; exact List.getElem?_eq_getElem hj'
      have B2 := L1.B.same k2
      obtain ⟨bx2, bm2, bn2, bd2, hb2⟩ := B2.ins_
      repeat kaf_suf
      refine ⟨rfl, ?_⟩
      repeat kaf_suf
      refine ⟨rfl, b, MB, _, _, j, gt[j], by rw [Int.zero_add], B2, hgj, fun p1 hp1 => ?_⟩
      repeat kaf_suf
      refine ⟨rfl, b, MB, _, _, j, gt[j], by rw [Int.zero_add], B2.same (Keep.alloc hp1), hgj, fun p2 hp2 => ?_⟩
      repeat kaf_suf
      intro p3 hp3
      repeat kaf_suf
      have k3 : Keep Nil H2 (upd (upd (upd H2 p1 (.lst (gt[j].1.map V.int))) p2 (.lst (gt[j].2.map V.int))) p3 (.tup [.ref p1, .ref p2])) := ((Keep.alloc hp1).new hp2).new hp3
      have ql : qs.length ≤ 100 := by
        have := Paired.length pq
        rw [List.length_take] at this; omega
      refine ⟨_, k3.get (fun z => z) e2, few1 (by rw [List.length_map]; omega), qs ++ [p3], by rw [List.map_append]; exact upd_same, ?_, (k2.trans k3).setN hD5⟩
      have e3' := k3.get (fun z => z) e2
      have n1 : p1 ≠ D5 := ne_new hp1 e2
      have n2 : p2 ≠ D5 := ne_new hp2 (get_new hp1 e2)
      have n3 : p3 ≠ D5 := ne_new hp3 (get_new hp2 (get_new hp1 e2))
      have r3 : RowAt (fun x => x = D5) (upd (upd (upd H2 p1 (.lst (gt[j].1.map V.int))) p2 (.lst (gt[j].2.map V.int))) p3 (.tup [.ref p1, .ref p2])) p3 gt[j] := ⟨p1, p2, upd_same, by kaf_pre, by kaf_pre, n3, n1, n2⟩
      have tk1 : gt.take (j + 1) = gt.take j ++ [gt[j]] := by rw [List.take_succ, List.getElem?_eq_getElem hj']; rfl
      rw [tk1]
      exact Paired.snoc (paired_keep pq fun t g r => (r.keep k3.weak).keep (Keep.refl.set rfl)) (r3.keep (Keep.refl.set rfl))
    rintro H2 ⟨qs, e2, pq, k2⟩
    have hR2 := (L1.rows).keep (W := _) k2.weak fun o h => k2.get (fun z => z) h
    rw [List.take_of_length_le (by omega)] at pq
    repeat kaf_suf
    refine v_eqD (d := .list (gt.map dRow)) (e := .list (gt.map dRow)) (.lst (SqL.of e2) (rows_dp pq)) hR2.dp (dRows_sh gt) (dRows_sh gt) ?_
    have ee : PyData.eqv (.list (gt.map dRow)) (.list (gt.map dRow)) = true := by
      simp only [PyData.eqv]; exact eqv_rows gt
    rw [ee]
    (repeat kaf_suf)
    exact k _

theorem ok_law {c : Cn} {mg : Str → Option Value} {base : Heap} {f : Addr} {fd : FuncData} (T : Txt c mg) (F : Fun c.K "law" "law" s_law f fd) : FnOk c.P c.w c.K mg base CX0 7 f fd ["script"] (sp_law_law c.K) :=
  F.ok (k := 6) (N := N_law) sc_law (fun vs H Q E h => h.1) (fun cdv A outer s H vs Q E hr h => ⟨t_law c, by
  exact (pss_cons (ps_set (i := 1) sc_law.nd rfl (Or.inl rfl) (e_call (cal_law_deck T) hr (by decide) pass0 rfl (pa_cons (pv 0) pa_nil)))
  (pss_cons (ps_set (i := 2) sc_law.nd rfl (Or.inr rfl) (e_make0 (mak_Book T) hr (by decide) pass0 rfl))
  (pss_cons (ps_set (i := 3) sc_law.nd rfl (Or.inl rfl) (e_call (cal_law_grown T) hr (by decide) pass0 rfl (pa_cons (pv 1) (pa_cons (pv 2) (pa_cons (pe_op o_add pe_int (e_call (cal_law_draw T) hr (by decide) pass0 rfl (pa_cons (pv 1) (pa_cons pe_int pa_nil)))) pa_nil)))))
  (pss_cons (ps_if (pt_cmpR o_is (pv 3) pe_non (nomark _)) (pss_one (ps_ret pe_bl)) pss_nil)
  (pss_cons (ps_set (i := 4) sc_law.nd rfl (Or.inl rfl) (e_make0 (mak_Book T) hr (by decide) pass0 rfl))
  (pss_cons (ps_set (i := 5) sc_law.nd rfl (Or.inl rfl) pe_int)
  (pss_cons (ps_for PassesOwn.never rfl (pi_range1 rfl T.n_range (pa_cons (pe_op o_add (pe_callB k_len (by rfl) T.n_len (by decide +kernel) (pa_cons (pv 3) pa_nil)) pe_int) pa_nil)) (pg_name (i := 6) sc_law.nd rfl (Or.inl rfl))
  (pss_one (ps_set (i := 5) sc_law.nd rfl (Or.inl rfl) (e_meth (met_Book_game T) hr (by decide) passL (pv 4) (pa_cons (pe_lst (pa_cons (pv 5) pa_nil)) (pa_cons (pe_lst pa_nil) pa_nil))))))
  (pss_cons (ps_for PassesOwn.never rfl (pi_range1 rfl T.n_range (pa_cons pe_int pa_nil)) (pg_name (i := 7) sc_law.nd rfl (Or.inl rfl))
  (pss_cons (ps_set (i := 8) sc_law.nd rfl (Or.inl rfl) (pe_callB k_len (by rfl) T.n_len (by decide +kernel) (pa_cons (pv 3) pa_nil)))
  (pss_cons (ps_set (i := 9) sc_law.nd rfl (Or.inl rfl) (pe_lst (pa_cons pe_bl (pa_cons pe_bl (pa_cons pe_non (pa_cons pe_str (pa_cons pe_str (pa_cons (pe_tup (pa_cons pe_int pa_nil)) (pa_cons (pe_lst (pa_cons pe_int pa_nil)) (pa_cons pe_dnew (pa_cons (pe_un un_neg pe_int) (pa_cons (pv 8) (pa_cons (pv 5) (pa_cons (pe_un un_neg (pe_op o_pow pe_int pe_int)) (pa_cons (pe_op o_add (pe_op o_pow pe_int pe_int) (pv 8)) (pa_cons (pe_tup pa_nil) (pa_cons (pe_op o_add (pv 8) pe_int) pa_nil)))))))))))))))))
  (pss_cons (ps_set (i := 10) sc_law.nd rfl (Or.inl rfl) (pe_ix (x_ix (hu64 hr)) (pv 9) (e_call (cal_law_draw T) hr (by decide) pass0 rfl (pa_cons (pv 1) (pa_cons pe_int pa_nil))) (fun _ _ => rfl)))
  (pss_cons (ps_set (i := 11) sc_law.nd rfl (Or.inl rfl) (e_call (cal_law_moves T) hr (by decide) pass0 rfl (pa_cons (pv 1) (pa_cons (pv 8) pa_nil))))
  (pss_cons (ps_set (i := 12) sc_law.nd rfl (Or.inl rfl) (e_call (cal_law_draw T) hr (by decide) pass0 rfl (pa_cons (pv 1) (pa_cons (pe_op o_add (pe_callB k_len (by rfl) T.n_len (by decide +kernel) (pa_cons (pv 11) pa_nil)) pe_int) pa_nil))))
  (pss_cons (ps_set (i := 13) sc_law.nd rfl (Or.inl rfl) (pe_op o_add (pe_op o_add (pe_slice s_sl (pv 11) po_none (po_some (pv 12))) (pe_lst (pa_cons (pv 10) pa_nil))) (pe_slice s_sl (pv 11) (po_some (pv 12)) po_none)))
  (pss_cons (ps_set (i := 14) sc_law.nd rfl (Or.inl rfl) (e_call (cal_law_moves T) hr (by decide) pass0 rfl (pa_cons (pv 1) (pa_cons (pv 8) pa_nil))))
  (pss_cons (ps_for PassesOwn.never rfl (pi_range1 rfl T.n_range (pa_cons pe_int pa_nil)) (pg_name (i := 15) sc_law.nd rfl (Or.inl rfl))
  (pss_one (ps_if (PW.pt (pw_or (pt_not (p_tru (e_call (cal_law_refused T) hr (by decide) pass0 rfl (pa_cons (pv 2) (pa_cons (pv 15) (pa_cons (pv 10) (pa_cons (pe_callTy (k_list rfl) (by rfl) T.n_list (by decide +kernel) (pa_cons (pv 13) pa_nil)) (pa_cons (pe_callTy (k_list rfl) (by rfl) T.n_list (by decide +kernel) (pa_cons (pv 14) pa_nil)) pa_nil)))))))) (pw_or1 (pt_cmpR (o_ne (hu64 hr)) (e_meth0 (met_Book_many T) hr (by decide) pass0 (pv 2)) (pv 8) (nomark _))))) (pss_one (ps_ret pe_bl)) pss_nil)))
  (pss_one (ps_if (pt_cmpR (o_eq (hu64 hr)) (pe_op o_mod (pv 7) pe_int) pe_int (nomark _)) (pss_cons (ps_if (pt_cmpR (o_ne (hu64 hr)) (e_meth (met_Book_game T) hr (by decide) passL (pv 2) (pa_cons (pe_lst (pa_cons (pe_op o_sub (pv 8) pe_int) pa_nil)) (pa_cons (pe_lst (pa_cons (pe_op o_sub (pv 8) pe_int) pa_nil)) pa_nil))) (pv 8) (nomark _)) (pss_one (ps_ret pe_bl)) pss_nil)
  (pss_one (ps_expr (pe_bm PySem.F.plainAttrs_list PySem.F.slot_list_append PySem.F.type_list_append mt_append (pv 3) (pa_cons (pe_tup (pa_cons (pe_lst (pa_cons (pe_op o_sub (pv 8) pe_int) pa_nil)) (pa_cons (pe_lst (pa_cons (pe_op o_sub (pv 8) pe_int) pa_nil)) pa_nil))) pa_nil))))) pss_nil)))))))))))
  (pss_cons (ps_if (pt_cmpR (o_ne (hu64 hr)) (pe_lc (own := [("g", 16)]) rfl sc_law.nd (pi_range1 rfl T.n_range (pa_cons (pe_callB k_len (by rfl) T.n_len (by decide +kernel) (pa_cons (pv 3) pa_nil)) pa_nil)) (blkOk_by (own := [("g", 16)]) (N := N_law) (sc := defScope s_law) (by decide +kernel)) (fun _ _ _ _ _ => (pg_name (i := 16) sc_law.nd rfl (Or.inl rfl))) (fun _ _ _ _ _ => pts_nil) (fun _ _ _ _ _ => (e_meth (met_Book_depth T) hr (by decide) passL (pv 2) (pa_cons (pv 16) pa_nil)))) (e_call (cal_law_depths T) hr (by decide) pass0 rfl (pa_cons (pv 3) pa_nil)) (nomark _)) (pss_one (ps_ret pe_bl)) pss_nil)
  (pss_one (ps_ret (pe_cmpR (o_eq (hu64 hr)) (pe_lc (own := [("g", 16)]) rfl sc_law.nd (pi_range1 rfl T.n_range (pa_cons (pe_callB k_len (by rfl) T.n_len (by decide +kernel) (pa_cons (pv 3) pa_nil)) pa_nil)) (blkOk_by (own := [("g", 16)]) (N := N_law) (sc := defScope s_law) (by decide +kernel)) (fun _ _ _ _ _ => (pg_name (i := 16) sc_law.nd rfl (Or.inl rfl))) (fun _ _ _ _ _ => pts_nil) (fun _ _ _ _ _ => (pe_tup (pa_cons (e_meth (met_Book_lefts T) hr (by decide) passL (pv 2) (pa_cons (pv 16) pa_nil)) (pa_cons (e_meth (met_Book_rights T) hr (by decide) passL (pv 2) (pa_cons (pv 16) pa_nil)) pa_nil))))) (pv 3) (nomark _))))))))))))), p_law T h⟩)
theorem all_mk {l : PySem.W.OpenLaw} {w : World} {K : PySem.W.Frag} {h : Heap} {mg : Str → Option Value} {fa : Addr} (X : K.In h) (G : h.Ns mainGlobals mg) (hfa : mg "law" = some (.ref fa))
    {aGameError aNoGame aNoRoad aNoBoard aNoNumber aNoText aNoName aNoRow aBook : Addr}
    {f_law_draw : Addr} {od_law_draw an_law_draw : Option Addr} {sl_law_draw : Array (Option Value)} {oc_law_draw kV_law_draw dc_law_draw pm_law_draw cd_law_draw ct_law_draw : Value}
    {f_law_deck : Addr} {od_law_deck an_law_deck : Option Addr} {sl_law_deck : Array (Option Value)} {oc_law_deck kV_law_deck dc_law_deck pm_law_deck cd_law_deck ct_law_deck : Value}
    {f_Book_need : Addr} {od_Book_need an_Book_need : Option Addr} {sl_Book_need : Array (Option Value)} {oc_Book_need kV_Book_need dc_Book_need pm_Book_need cd_Book_need ct_Book_need : Value}
    {f_Book_game : Addr} {od_Book_game an_Book_game : Option Addr} {sl_Book_game : Array (Option Value)} {oc_Book_game kV_Book_game dc_Book_game pm_Book_game cd_Book_game ct_Book_game : Value}
    {f_Book_init : Addr} {od_Book_init an_Book_init : Option Addr} {sl_Book_init : Array (Option Value)} {oc_Book_init kV_Book_init dc_Book_init pm_Book_init cd_Book_init ct_Book_init : Value}
    {f_Book_many : Addr} {od_Book_many an_Book_many : Option Addr} {sl_Book_many : Array (Option Value)} {oc_Book_many kV_Book_many dc_Book_many pm_Book_many cd_Book_many ct_Book_many : Value}
    {f_law_moves : Addr} {od_law_moves an_law_moves : Option Addr} {sl_law_moves : Array (Option Value)} {oc_law_moves kV_law_moves dc_law_moves pm_law_moves cd_law_moves ct_law_moves : Value}
    {f_law_grown : Addr} {od_law_grown an_law_grown : Option Addr} {sl_law_grown : Array (Option Value)} {oc_law_grown kV_law_grown dc_law_grown pm_law_grown cd_law_grown ct_law_grown : Value}
    {f_law_kinds : Addr} {od_law_kinds an_law_kinds : Option Addr} {sl_law_kinds : Array (Option Value)} {oc_law_kinds kV_law_kinds dc_law_kinds pm_law_kinds cd_law_kinds ct_law_kinds : Value}
    {f_law_asked : Addr} {od_law_asked an_law_asked : Option Addr} {sl_law_asked : Array (Option Value)} {oc_law_asked kV_law_asked dc_law_asked pm_law_asked cd_law_asked ct_law_asked : Value}
    {f_law_refused : Addr} {od_law_refused an_law_refused : Option Addr} {sl_law_refused : Array (Option Value)} {oc_law_refused kV_law_refused dc_law_refused pm_law_refused cd_law_refused ct_law_refused : Value}
    {f_law_depths : Addr} {od_law_depths an_law_depths : Option Addr} {sl_law_depths : Array (Option Value)} {oc_law_depths kV_law_depths dc_law_depths pm_law_depths cd_law_depths ct_law_depths : Value}
    {f_Book_lefts : Addr} {od_Book_lefts an_Book_lefts : Option Addr} {sl_Book_lefts : Array (Option Value)} {oc_Book_lefts kV_Book_lefts dc_Book_lefts pm_Book_lefts cd_Book_lefts ct_Book_lefts : Value}
    {f_Book_rights : Addr} {od_Book_rights an_Book_rights : Option Addr} {sl_Book_rights : Array (Option Value)} {oc_Book_rights kV_Book_rights dc_Book_rights pm_Book_rights cd_Book_rights ct_Book_rights : Value}
    {f_Book_depth : Addr} {od_Book_depth an_Book_depth : Option Addr} {sl_Book_depth : Array (Option Value)} {oc_Book_depth kV_Book_depth dc_Book_depth pm_Book_depth cd_Book_depth ct_Book_depth : Value}
    {f_law : Addr} {od_law an_law : Option Addr} {sl_law : Array (Option Value)} {oc_law kV_law dc_law pm_law cd_law ct_law : Value}
    (a_GameError : PySem.W.nsIn K mainGlobals "GameError" = some (some (.ref aGameError)))
    (a_NoGame : PySem.W.nsIn K mainGlobals "NoGame" = some (some (.ref aNoGame)))
    (a_NoRoad : PySem.W.nsIn K mainGlobals "NoRoad" = some (some (.ref aNoRoad)))
    (a_NoBoard : PySem.W.nsIn K mainGlobals "NoBoard" = some (some (.ref aNoBoard)))
    (a_NoNumber : PySem.W.nsIn K mainGlobals "NoNumber" = some (some (.ref aNoNumber)))
    (a_NoText : PySem.W.nsIn K mainGlobals "NoText" = some (some (.ref aNoText)))
    (a_NoName : PySem.W.nsIn K mainGlobals "NoName" = some (some (.ref aNoName)))
    (a_NoRow : PySem.W.nsIn K mainGlobals "NoRow" = some (some (.ref aNoRow)))
    (a_Book : PySem.W.nsIn K mainGlobals "Book" = some (some (.ref aBook)))
    (pg_Book : PySem.W.plainGet K aBook Str.empty = true)
    (hd_Book : PySem.W.hasDictIn K aBook = true)
    (po_Book : PySem.W.plainOver K aBook = true)
    (sa_Book : PySem.W.findIn K (.ref aBook) "__setattr__" = some (some (.builtin "object.__setattr__")))
    (mk_Book : PySem.W.makesIn K aBook = true)
    (kc_Book : PySem.W.keepIn K (.ref aBook) = true)
    (na_Book_depths : PySem.W.findIn K (.ref aBook) "depths" = some none)
    (na_Book_moves : PySem.W.findIn K (.ref aBook) "moves" = some none)
    (na_Book_numbers : PySem.W.findIn K (.ref aBook) "numbers" = some none)
    (xk_GameError : PySem.W.keepIn K (.ref aGameError) = true)
    (xx_GameError : PySem.W.excIn K aGameError [.type "ValueError", .type "Exception", .type "BaseException", .type "object"] "ValueError.__new__" = true)
    (xb_GameError : PySem.W.subIn K (.ref aGameError) (.type "BaseException") = some true)
    (xt_GameError : PySem.W.typeIn K (.ref aGameError) = some (.type "type"))
    (xd_GameError : PySem.W.hasDictIn K aGameError = true)
    (xs_GameError : PySem.W.subIn K (.ref aGameError) (.ref aGameError) = some true)
    (xk_NoBoard : PySem.W.keepIn K (.ref aNoBoard) = true)
    (xx_NoBoard : PySem.W.excIn K aNoBoard [.type "ValueError", .type "Exception", .type "BaseException", .type "object"] "ValueError.__new__" = true)
    (xb_NoBoard : PySem.W.subIn K (.ref aNoBoard) (.type "BaseException") = some true)
    (xt_NoBoard : PySem.W.typeIn K (.ref aNoBoard) = some (.type "type"))
    (xd_NoBoard : PySem.W.hasDictIn K aNoBoard = true)
    (xs_NoBoard : PySem.W.subIn K (.ref aNoBoard) (.ref aGameError) = some true)
    (xk_NoGame : PySem.W.keepIn K (.ref aNoGame) = true)
    (xx_NoGame : PySem.W.excIn K aNoGame [.type "ValueError", .type "Exception", .type "BaseException", .type "object"] "ValueError.__new__" = true)
    (xb_NoGame : PySem.W.subIn K (.ref aNoGame) (.type "BaseException") = some true)
    (xt_NoGame : PySem.W.typeIn K (.ref aNoGame) = some (.type "type"))
    (xd_NoGame : PySem.W.hasDictIn K aNoGame = true)
    (xs_NoGame : PySem.W.subIn K (.ref aNoGame) (.ref aGameError) = some true)
    (xk_NoName : PySem.W.keepIn K (.ref aNoName) = true)
    (xx_NoName : PySem.W.excIn K aNoName [.type "ValueError", .type "Exception", .type "BaseException", .type "object"] "ValueError.__new__" = true)
    (xb_NoName : PySem.W.subIn K (.ref aNoName) (.type "BaseException") = some true)
    (xt_NoName : PySem.W.typeIn K (.ref aNoName) = some (.type "type"))
    (xd_NoName : PySem.W.hasDictIn K aNoName = true)
    (xs_NoName : PySem.W.subIn K (.ref aNoName) (.ref aGameError) = some true)
    (xk_NoNumber : PySem.W.keepIn K (.ref aNoNumber) = true)
    (xx_NoNumber : PySem.W.excIn K aNoNumber [.type "ValueError", .type "Exception", .type "BaseException", .type "object"] "ValueError.__new__" = true)
    (xb_NoNumber : PySem.W.subIn K (.ref aNoNumber) (.type "BaseException") = some true)
    (xt_NoNumber : PySem.W.typeIn K (.ref aNoNumber) = some (.type "type"))
    (xd_NoNumber : PySem.W.hasDictIn K aNoNumber = true)
    (xs_NoNumber : PySem.W.subIn K (.ref aNoNumber) (.ref aGameError) = some true)
    (xk_NoRoad : PySem.W.keepIn K (.ref aNoRoad) = true)
    (xx_NoRoad : PySem.W.excIn K aNoRoad [.type "ValueError", .type "Exception", .type "BaseException", .type "object"] "ValueError.__new__" = true)
    (xb_NoRoad : PySem.W.subIn K (.ref aNoRoad) (.type "BaseException") = some true)
    (xt_NoRoad : PySem.W.typeIn K (.ref aNoRoad) = some (.type "type"))
    (xd_NoRoad : PySem.W.hasDictIn K aNoRoad = true)
    (xs_NoRoad : PySem.W.subIn K (.ref aNoRoad) (.ref aGameError) = some true)
    (xk_NoRow : PySem.W.keepIn K (.ref aNoRow) = true)
    (xx_NoRow : PySem.W.excIn K aNoRow [.type "ValueError", .type "Exception", .type "BaseException", .type "object"] "ValueError.__new__" = true)
    (xb_NoRow : PySem.W.subIn K (.ref aNoRow) (.type "BaseException") = some true)
    (xt_NoRow : PySem.W.typeIn K (.ref aNoRow) = some (.type "type"))
    (xd_NoRow : PySem.W.hasDictIn K aNoRow = true)
    (xs_NoRow : PySem.W.subIn K (.ref aNoRow) (.ref aGameError) = some true)
    (xk_NoText : PySem.W.keepIn K (.ref aNoText) = true)
    (xx_NoText : PySem.W.excIn K aNoText [.type "ValueError", .type "Exception", .type "BaseException", .type "object"] "ValueError.__new__" = true)
    (xb_NoText : PySem.W.subIn K (.ref aNoText) (.type "BaseException") = some true)
    (xt_NoText : PySem.W.typeIn K (.ref aNoText) = some (.type "type"))
    (xd_NoText : PySem.W.hasDictIn K aNoText = true)
    (xs_NoText : PySem.W.subIn K (.ref aNoText) (.ref aGameError) = some true)
    (x_get : PySem.W.specialIn K (.builtin "object.__class__") "__get__" = some (some (.builtin "getset_descriptor.__get__")))
    (x_tak : PySem.W.takesIn K (.builtin "object.__class__") = some true)
    (ya_GameError : PySem.W.findIn K (.ref aGameError) "__getattribute__" = some (some (.builtin "BaseException.__getattribute__")))
    (yg_GameError : PySem.W.findIn K (.ref aGameError) "__getattr__" = some none)
    (yc_GameError : PySem.W.findIn K (.ref aGameError) "__class__" = some (some (.builtin "object.__class__")))
    (ym_GameError : PySem.W.mroIn K aGameError (.type "object") = some true)
    (yv_GameError : PySem.W.kitOne K (.ref aGameError) (.type "ValueError") = some true)
    (yi_GameError_GameError : PySem.W.kitOne K (.ref aGameError) (.ref aGameError) = some true)
    (yi_GameError_NoBoard : PySem.W.kitOne K (.ref aGameError) (.ref aNoBoard) = some false)
    (yi_GameError_NoGame : PySem.W.kitOne K (.ref aGameError) (.ref aNoGame) = some false)
    (yi_GameError_NoName : PySem.W.kitOne K (.ref aGameError) (.ref aNoName) = some false)
    (yi_GameError_NoNumber : PySem.W.kitOne K (.ref aGameError) (.ref aNoNumber) = some false)
    (yi_GameError_NoRoad : PySem.W.kitOne K (.ref aGameError) (.ref aNoRoad) = some false)
    (yi_GameError_NoRow : PySem.W.kitOne K (.ref aGameError) (.ref aNoRow) = some false)
    (yi_GameError_NoText : PySem.W.kitOne K (.ref aGameError) (.ref aNoText) = some false)
    (ya_NoBoard : PySem.W.findIn K (.ref aNoBoard) "__getattribute__" = some (some (.builtin "BaseException.__getattribute__")))
    (yg_NoBoard : PySem.W.findIn K (.ref aNoBoard) "__getattr__" = some none)
    (yc_NoBoard : PySem.W.findIn K (.ref aNoBoard) "__class__" = some (some (.builtin "object.__class__")))
    (ym_NoBoard : PySem.W.mroIn K aNoBoard (.type "object") = some true)
    (yv_NoBoard : PySem.W.kitOne K (.ref aNoBoard) (.type "ValueError") = some true)
    (yi_NoBoard_GameError : PySem.W.kitOne K (.ref aNoBoard) (.ref aGameError) = some true)
    (yi_NoBoard_NoBoard : PySem.W.kitOne K (.ref aNoBoard) (.ref aNoBoard) = some true)
    (yi_NoBoard_NoGame : PySem.W.kitOne K (.ref aNoBoard) (.ref aNoGame) = some false)
    (yi_NoBoard_NoName : PySem.W.kitOne K (.ref aNoBoard) (.ref aNoName) = some false)
    (yi_NoBoard_NoNumber : PySem.W.kitOne K (.ref aNoBoard) (.ref aNoNumber) = some false)
    (yi_NoBoard_NoRoad : PySem.W.kitOne K (.ref aNoBoard) (.ref aNoRoad) = some false)
    (yi_NoBoard_NoRow : PySem.W.kitOne K (.ref aNoBoard) (.ref aNoRow) = some false)
    (yi_NoBoard_NoText : PySem.W.kitOne K (.ref aNoBoard) (.ref aNoText) = some false)
    (ya_NoGame : PySem.W.findIn K (.ref aNoGame) "__getattribute__" = some (some (.builtin "BaseException.__getattribute__")))
    (yg_NoGame : PySem.W.findIn K (.ref aNoGame) "__getattr__" = some none)
    (yc_NoGame : PySem.W.findIn K (.ref aNoGame) "__class__" = some (some (.builtin "object.__class__")))
    (ym_NoGame : PySem.W.mroIn K aNoGame (.type "object") = some true)
    (yv_NoGame : PySem.W.kitOne K (.ref aNoGame) (.type "ValueError") = some true)
    (yi_NoGame_GameError : PySem.W.kitOne K (.ref aNoGame) (.ref aGameError) = some true)
    (yi_NoGame_NoBoard : PySem.W.kitOne K (.ref aNoGame) (.ref aNoBoard) = some false)
    (yi_NoGame_NoGame : PySem.W.kitOne K (.ref aNoGame) (.ref aNoGame) = some true)
    (yi_NoGame_NoName : PySem.W.kitOne K (.ref aNoGame) (.ref aNoName) = some false)
    (yi_NoGame_NoNumber : PySem.W.kitOne K (.ref aNoGame) (.ref aNoNumber) = some false)
    (yi_NoGame_NoRoad : PySem.W.kitOne K (.ref aNoGame) (.ref aNoRoad) = some false)
    (yi_NoGame_NoRow : PySem.W.kitOne K (.ref aNoGame) (.ref aNoRow) = some false)
    (yi_NoGame_NoText : PySem.W.kitOne K (.ref aNoGame) (.ref aNoText) = some false)
    (ya_NoName : PySem.W.findIn K (.ref aNoName) "__getattribute__" = some (some (.builtin "BaseException.__getattribute__")))
    (yg_NoName : PySem.W.findIn K (.ref aNoName) "__getattr__" = some none)
    (yc_NoName : PySem.W.findIn K (.ref aNoName) "__class__" = some (some (.builtin "object.__class__")))
    (ym_NoName : PySem.W.mroIn K aNoName (.type "object") = some true)
    (yv_NoName : PySem.W.kitOne K (.ref aNoName) (.type "ValueError") = some true)
    (yi_NoName_GameError : PySem.W.kitOne K (.ref aNoName) (.ref aGameError) = some true)
    (yi_NoName_NoBoard : PySem.W.kitOne K (.ref aNoName) (.ref aNoBoard) = some false)
    (yi_NoName_NoGame : PySem.W.kitOne K (.ref aNoName) (.ref aNoGame) = some false)
    (yi_NoName_NoName : PySem.W.kitOne K (.ref aNoName) (.ref aNoName) = some true)
    (yi_NoName_NoNumber : PySem.W.kitOne K (.ref aNoName) (.ref aNoNumber) = some false)
    (yi_NoName_NoRoad : PySem.W.kitOne K (.ref aNoName) (.ref aNoRoad) = some false)
    (yi_NoName_NoRow : PySem.W.kitOne K (.ref aNoName) (.ref aNoRow) = some false)
    (yi_NoName_NoText : PySem.W.kitOne K (.ref aNoName) (.ref aNoText) = some false)
    (ya_NoNumber : PySem.W.findIn K (.ref aNoNumber) "__getattribute__" = some (some (.builtin "BaseException.__getattribute__")))
    (yg_NoNumber : PySem.W.findIn K (.ref aNoNumber) "__getattr__" = some none)
    (yc_NoNumber : PySem.W.findIn K (.ref aNoNumber) "__class__" = some (some (.builtin "object.__class__")))
    (ym_NoNumber : PySem.W.mroIn K aNoNumber (.type "object") = some true)
    (yv_NoNumber : PySem.W.kitOne K (.ref aNoNumber) (.type "ValueError") = some true)
    (yi_NoNumber_GameError : PySem.W.kitOne K (.ref aNoNumber) (.ref aGameError) = some true)
    (yi_NoNumber_NoBoard : PySem.W.kitOne K (.ref aNoNumber) (.ref aNoBoard) = some false)
    (yi_NoNumber_NoGame : PySem.W.kitOne K (.ref aNoNumber) (.ref aNoGame) = some false)
    (yi_NoNumber_NoName : PySem.W.kitOne K (.ref aNoNumber) (.ref aNoName) = some false)
    (yi_NoNumber_NoNumber : PySem.W.kitOne K (.ref aNoNumber) (.ref aNoNumber) = some true)
    (yi_NoNumber_NoRoad : PySem.W.kitOne K (.ref aNoNumber) (.ref aNoRoad) = some false)
    (yi_NoNumber_NoRow : PySem.W.kitOne K (.ref aNoNumber) (.ref aNoRow) = some false)
    (yi_NoNumber_NoText : PySem.W.kitOne K (.ref aNoNumber) (.ref aNoText) = some false)
    (ya_NoRoad : PySem.W.findIn K (.ref aNoRoad) "__getattribute__" = some (some (.builtin "BaseException.__getattribute__")))
    (yg_NoRoad : PySem.W.findIn K (.ref aNoRoad) "__getattr__" = some none)
    (yc_NoRoad : PySem.W.findIn K (.ref aNoRoad) "__class__" = some (some (.builtin "object.__class__")))
    (ym_NoRoad : PySem.W.mroIn K aNoRoad (.type "object") = some true)
    (yv_NoRoad : PySem.W.kitOne K (.ref aNoRoad) (.type "ValueError") = some true)
    (yi_NoRoad_GameError : PySem.W.kitOne K (.ref aNoRoad) (.ref aGameError) = some true)
    (yi_NoRoad_NoBoard : PySem.W.kitOne K (.ref aNoRoad) (.ref aNoBoard) = some false)
    (yi_NoRoad_NoGame : PySem.W.kitOne K (.ref aNoRoad) (.ref aNoGame) = some false)
    (yi_NoRoad_NoName : PySem.W.kitOne K (.ref aNoRoad) (.ref aNoName) = some false)
    (yi_NoRoad_NoNumber : PySem.W.kitOne K (.ref aNoRoad) (.ref aNoNumber) = some false)
    (yi_NoRoad_NoRoad : PySem.W.kitOne K (.ref aNoRoad) (.ref aNoRoad) = some true)
    (yi_NoRoad_NoRow : PySem.W.kitOne K (.ref aNoRoad) (.ref aNoRow) = some false)
    (yi_NoRoad_NoText : PySem.W.kitOne K (.ref aNoRoad) (.ref aNoText) = some false)
    (ya_NoRow : PySem.W.findIn K (.ref aNoRow) "__getattribute__" = some (some (.builtin "BaseException.__getattribute__")))
    (yg_NoRow : PySem.W.findIn K (.ref aNoRow) "__getattr__" = some none)
    (yc_NoRow : PySem.W.findIn K (.ref aNoRow) "__class__" = some (some (.builtin "object.__class__")))
    (ym_NoRow : PySem.W.mroIn K aNoRow (.type "object") = some true)
    (yv_NoRow : PySem.W.kitOne K (.ref aNoRow) (.type "ValueError") = some true)
    (yi_NoRow_GameError : PySem.W.kitOne K (.ref aNoRow) (.ref aGameError) = some true)
    (yi_NoRow_NoBoard : PySem.W.kitOne K (.ref aNoRow) (.ref aNoBoard) = some false)
    (yi_NoRow_NoGame : PySem.W.kitOne K (.ref aNoRow) (.ref aNoGame) = some false)
    (yi_NoRow_NoName : PySem.W.kitOne K (.ref aNoRow) (.ref aNoName) = some false)
    (yi_NoRow_NoNumber : PySem.W.kitOne K (.ref aNoRow) (.ref aNoNumber) = some false)
    (yi_NoRow_NoRoad : PySem.W.kitOne K (.ref aNoRow) (.ref aNoRoad) = some false)
    (yi_NoRow_NoRow : PySem.W.kitOne K (.ref aNoRow) (.ref aNoRow) = some true)
    (yi_NoRow_NoText : PySem.W.kitOne K (.ref aNoRow) (.ref aNoText) = some false)
    (ya_NoText : PySem.W.findIn K (.ref aNoText) "__getattribute__" = some (some (.builtin "BaseException.__getattribute__")))
    (yg_NoText : PySem.W.findIn K (.ref aNoText) "__getattr__" = some none)
    (yc_NoText : PySem.W.findIn K (.ref aNoText) "__class__" = some (some (.builtin "object.__class__")))
    (ym_NoText : PySem.W.mroIn K aNoText (.type "object") = some true)
    (yv_NoText : PySem.W.kitOne K (.ref aNoText) (.type "ValueError") = some true)
    (yi_NoText_GameError : PySem.W.kitOne K (.ref aNoText) (.ref aGameError) = some true)
    (yi_NoText_NoBoard : PySem.W.kitOne K (.ref aNoText) (.ref aNoBoard) = some false)
    (yi_NoText_NoGame : PySem.W.kitOne K (.ref aNoText) (.ref aNoGame) = some false)
    (yi_NoText_NoName : PySem.W.kitOne K (.ref aNoText) (.ref aNoName) = some false)
    (yi_NoText_NoNumber : PySem.W.kitOne K (.ref aNoText) (.ref aNoNumber) = some false)
    (yi_NoText_NoRoad : PySem.W.kitOne K (.ref aNoText) (.ref aNoRoad) = some false)
    (yi_NoText_NoRow : PySem.W.kitOne K (.ref aNoText) (.ref aNoRow) = some false)
    (yi_NoText_NoText : PySem.W.kitOne K (.ref aNoText) (.ref aNoText) = some true)
    (n_ValueError : PySem.W.nsIn K mainGlobals "ValueError" = some none)
    (n_bool : PySem.W.nsIn K mainGlobals "bool" = some none)
    (n_int : PySem.W.nsIn K mainGlobals "int" = some none)
    (n_isinstance : PySem.W.nsIn K mainGlobals "isinstance" = some none)
    (n_len : PySem.W.nsIn K mainGlobals "len" = some none)
    (n_list : PySem.W.nsIn K mainGlobals "list" = some none)
    (n_max : PySem.W.nsIn K mainGlobals "max" = some none)
    (n_min : PySem.W.nsIn K mainGlobals "min" = some none)
    (n_range : PySem.W.nsIn K mainGlobals "range" = some none)
    (n_set : PySem.W.nsIn K mainGlobals "set" = some none)
    (n_sorted : PySem.W.nsIn K mainGlobals "sorted" = some none)
    (n_tuple : PySem.W.nsIn K mainGlobals "tuple" = some none)
    (a_law_draw : PySem.W.nsIn K mainGlobals "_law_draw" = some (some (.ref f_law_draw)))
    (l_law_draw : K.lookup f_law_draw = some ⟨oc_law_draw, od_law_draw, .func (PySem.W.fnOf "_law_draw" "_law_draw" (defArgs s_law_draw) (defBody s_law_draw) (defScope s_law_draw) .none kV_law_draw dc_law_draw pm_law_draw an_law_draw cd_law_draw ct_law_draw), sl_law_draw⟩)
    (c_law_draw : PySem.W.codeIn K cd_law_draw "_law_draw" = true)
    (k_law_draw : PySem.W.keepIn K (.ref f_law_draw) = true)
    (a_law_deck : PySem.W.nsIn K mainGlobals "_law_deck" = some (some (.ref f_law_deck)))
    (l_law_deck : K.lookup f_law_deck = some ⟨oc_law_deck, od_law_deck, .func (PySem.W.fnOf "_law_deck" "_law_deck" (defArgs s_law_deck) (defBody s_law_deck) (defScope s_law_deck) .none kV_law_deck dc_law_deck pm_law_deck an_law_deck cd_law_deck ct_law_deck), sl_law_deck⟩)
    (c_law_deck : PySem.W.codeIn K cd_law_deck "_law_deck" = true)
    (k_law_deck : PySem.W.keepIn K (.ref f_law_deck) = true)
    (a_Book_need : PySem.W.findIn K (.ref aBook) "need" = some (some (.ref f_Book_need)))
    (i_Book_need : PySem.W.isFn K (.ref f_Book_need) = true)
    (l_Book_need : K.lookup f_Book_need = some ⟨oc_Book_need, od_Book_need, .func (PySem.W.fnOf "need" "Book.need" (defArgs s_Book_need) (defBody s_Book_need) (defScope s_Book_need) .none kV_Book_need dc_Book_need pm_Book_need an_Book_need cd_Book_need ct_Book_need), sl_Book_need⟩)
    (c_Book_need : PySem.W.codeIn K cd_Book_need "Book.need" = true)
    (k_Book_need : PySem.W.keepIn K (.ref f_Book_need) = true)
    (a_Book_game : PySem.W.findIn K (.ref aBook) "game" = some (some (.ref f_Book_game)))
    (i_Book_game : PySem.W.isFn K (.ref f_Book_game) = true)
    (l_Book_game : K.lookup f_Book_game = some ⟨oc_Book_game, od_Book_game, .func (PySem.W.fnOf "game" "Book.game" (defArgs s_Book_game) (defBody s_Book_game) (defScope s_Book_game) .none kV_Book_game dc_Book_game pm_Book_game an_Book_game cd_Book_game ct_Book_game), sl_Book_game⟩)
    (c_Book_game : PySem.W.codeIn K cd_Book_game "Book.game" = true)
    (k_Book_game : PySem.W.keepIn K (.ref f_Book_game) = true)
    (a_Book_init : PySem.W.findIn K (.ref aBook) "__init__" = some (some (.ref f_Book_init)))
    (i_Book_init : PySem.W.isFn K (.ref f_Book_init) = true)
    (l_Book_init : K.lookup f_Book_init = some ⟨oc_Book_init, od_Book_init, .func (PySem.W.fnOf "__init__" "Book.__init__" (defArgs s_Book_init) (defBody s_Book_init) (defScope s_Book_init) .none kV_Book_init dc_Book_init pm_Book_init an_Book_init cd_Book_init ct_Book_init), sl_Book_init⟩)
    (c_Book_init : PySem.W.codeIn K cd_Book_init "Book.__init__" = true)
    (k_Book_init : PySem.W.keepIn K (.ref f_Book_init) = true)
    (a_Book_many : PySem.W.findIn K (.ref aBook) "many" = some (some (.ref f_Book_many)))
    (i_Book_many : PySem.W.isFn K (.ref f_Book_many) = true)
    (l_Book_many : K.lookup f_Book_many = some ⟨oc_Book_many, od_Book_many, .func (PySem.W.fnOf "many" "Book.many" (defArgs s_Book_many) (defBody s_Book_many) (defScope s_Book_many) .none kV_Book_many dc_Book_many pm_Book_many an_Book_many cd_Book_many ct_Book_many), sl_Book_many⟩)
    (c_Book_many : PySem.W.codeIn K cd_Book_many "Book.many" = true)
    (k_Book_many : PySem.W.keepIn K (.ref f_Book_many) = true)
    (a_law_moves : PySem.W.nsIn K mainGlobals "_law_moves" = some (some (.ref f_law_moves)))
    (l_law_moves : K.lookup f_law_moves = some ⟨oc_law_moves, od_law_moves, .func (PySem.W.fnOf "_law_moves" "_law_moves" (defArgs s_law_moves) (defBody s_law_moves) (defScope s_law_moves) .none kV_law_moves dc_law_moves pm_law_moves an_law_moves cd_law_moves ct_law_moves), sl_law_moves⟩)
    (c_law_moves : PySem.W.codeIn K cd_law_moves "_law_moves" = true)
    (k_law_moves : PySem.W.keepIn K (.ref f_law_moves) = true)
    (a_law_grown : PySem.W.nsIn K mainGlobals "_law_grown" = some (some (.ref f_law_grown)))
    (l_law_grown : K.lookup f_law_grown = some ⟨oc_law_grown, od_law_grown, .func (PySem.W.fnOf "_law_grown" "_law_grown" (defArgs s_law_grown) (defBody s_law_grown) (defScope s_law_grown) .none kV_law_grown dc_law_grown pm_law_grown an_law_grown cd_law_grown ct_law_grown), sl_law_grown⟩)
    (c_law_grown : PySem.W.codeIn K cd_law_grown "_law_grown" = true)
    (k_law_grown : PySem.W.keepIn K (.ref f_law_grown) = true)
    (a_law_kinds : PySem.W.nsIn K mainGlobals "_law_kinds" = some (some (.ref f_law_kinds)))
    (l_law_kinds : K.lookup f_law_kinds = some ⟨oc_law_kinds, od_law_kinds, .func (PySem.W.fnOf "_law_kinds" "_law_kinds" (defArgs s_law_kinds) (defBody s_law_kinds) (defScope s_law_kinds) .none kV_law_kinds dc_law_kinds pm_law_kinds an_law_kinds cd_law_kinds ct_law_kinds), sl_law_kinds⟩)
    (c_law_kinds : PySem.W.codeIn K cd_law_kinds "_law_kinds" = true)
    (k_law_kinds : PySem.W.keepIn K (.ref f_law_kinds) = true)
    (a_law_asked : PySem.W.nsIn K mainGlobals "_law_asked" = some (some (.ref f_law_asked)))
    (l_law_asked : K.lookup f_law_asked = some ⟨oc_law_asked, od_law_asked, .func (PySem.W.fnOf "_law_asked" "_law_asked" (defArgs s_law_asked) (defBody s_law_asked) (defScope s_law_asked) .none kV_law_asked dc_law_asked pm_law_asked an_law_asked cd_law_asked ct_law_asked), sl_law_asked⟩)
    (c_law_asked : PySem.W.codeIn K cd_law_asked "_law_asked" = true)
    (k_law_asked : PySem.W.keepIn K (.ref f_law_asked) = true)
    (a_law_refused : PySem.W.nsIn K mainGlobals "_law_refused" = some (some (.ref f_law_refused)))
    (l_law_refused : K.lookup f_law_refused = some ⟨oc_law_refused, od_law_refused, .func (PySem.W.fnOf "_law_refused" "_law_refused" (defArgs s_law_refused) (defBody s_law_refused) (defScope s_law_refused) .none kV_law_refused dc_law_refused pm_law_refused an_law_refused cd_law_refused ct_law_refused), sl_law_refused⟩)
    (c_law_refused : PySem.W.codeIn K cd_law_refused "_law_refused" = true)
    (k_law_refused : PySem.W.keepIn K (.ref f_law_refused) = true)
    (a_law_depths : PySem.W.nsIn K mainGlobals "_law_depths" = some (some (.ref f_law_depths)))
    (l_law_depths : K.lookup f_law_depths = some ⟨oc_law_depths, od_law_depths, .func (PySem.W.fnOf "_law_depths" "_law_depths" (defArgs s_law_depths) (defBody s_law_depths) (defScope s_law_depths) .none kV_law_depths dc_law_depths pm_law_depths an_law_depths cd_law_depths ct_law_depths), sl_law_depths⟩)
    (c_law_depths : PySem.W.codeIn K cd_law_depths "_law_depths" = true)
    (k_law_depths : PySem.W.keepIn K (.ref f_law_depths) = true)
    (a_Book_lefts : PySem.W.findIn K (.ref aBook) "lefts" = some (some (.ref f_Book_lefts)))
    (i_Book_lefts : PySem.W.isFn K (.ref f_Book_lefts) = true)
    (l_Book_lefts : K.lookup f_Book_lefts = some ⟨oc_Book_lefts, od_Book_lefts, .func (PySem.W.fnOf "lefts" "Book.lefts" (defArgs s_Book_lefts) (defBody s_Book_lefts) (defScope s_Book_lefts) .none kV_Book_lefts dc_Book_lefts pm_Book_lefts an_Book_lefts cd_Book_lefts ct_Book_lefts), sl_Book_lefts⟩)
    (c_Book_lefts : PySem.W.codeIn K cd_Book_lefts "Book.lefts" = true)
    (k_Book_lefts : PySem.W.keepIn K (.ref f_Book_lefts) = true)
    (a_Book_rights : PySem.W.findIn K (.ref aBook) "rights" = some (some (.ref f_Book_rights)))
    (i_Book_rights : PySem.W.isFn K (.ref f_Book_rights) = true)
    (l_Book_rights : K.lookup f_Book_rights = some ⟨oc_Book_rights, od_Book_rights, .func (PySem.W.fnOf "rights" "Book.rights" (defArgs s_Book_rights) (defBody s_Book_rights) (defScope s_Book_rights) .none kV_Book_rights dc_Book_rights pm_Book_rights an_Book_rights cd_Book_rights ct_Book_rights), sl_Book_rights⟩)
    (c_Book_rights : PySem.W.codeIn K cd_Book_rights "Book.rights" = true)
    (k_Book_rights : PySem.W.keepIn K (.ref f_Book_rights) = true)
    (a_Book_depth : PySem.W.findIn K (.ref aBook) "depth" = some (some (.ref f_Book_depth)))
    (i_Book_depth : PySem.W.isFn K (.ref f_Book_depth) = true)
    (l_Book_depth : K.lookup f_Book_depth = some ⟨oc_Book_depth, od_Book_depth, .func (PySem.W.fnOf "depth" "Book.depth" (defArgs s_Book_depth) (defBody s_Book_depth) (defScope s_Book_depth) .none kV_Book_depth dc_Book_depth pm_Book_depth an_Book_depth cd_Book_depth ct_Book_depth), sl_Book_depth⟩)
    (c_Book_depth : PySem.W.codeIn K cd_Book_depth "Book.depth" = true)
    (k_Book_depth : PySem.W.keepIn K (.ref f_Book_depth) = true)
    (a_law : PySem.W.nsIn K mainGlobals "law" = some (some (.ref f_law)))
    (l_law : K.lookup f_law = some ⟨oc_law, od_law, .func (PySem.W.fnOf "law" "law" (defArgs s_law) (defBody s_law) (defScope s_law) .none kV_law dc_law pm_law an_law cd_law ct_law), sl_law⟩)
    (c_law : PySem.W.codeIn K cd_law "law" = true)
    (k_law : PySem.W.keepIn K (.ref f_law) = true)
    : ∃ fd : FuncData, (∀ (s : Shared) (v : Value), BindsTo s fd ⟨[v], []⟩ [("script", v)]) ∧ ∀ base : Heap, K.In base → base.Ns mainGlobals mg → FnOk l.prog w K mg base CX0 7 fa fd ["script"] (sp_law_law K) := by
  have e := hfa.symm.trans (PySem.W.mg_of X G a_law)
  cases e
  let c : Cn := { P := l.prog, w := w, K := K, cGameError := aGameError, cNoGame := aNoGame, cNoRoad := aNoRoad, cNoBoard := aNoBoard, cNoNumber := aNoNumber, cNoText := aNoText, cNoName := aNoName, cNoRow := aNoRow, cBook := aBook }
  have T : Txt c mg := { n_ValueError := PySem.W.mg_none_of X G n_ValueError, n_bool := PySem.W.mg_none_of X G n_bool, n_int := PySem.W.mg_none_of X G n_int, n_isinstance := PySem.W.mg_none_of X G n_isinstance, n_len := PySem.W.mg_none_of X G n_len, n_list := PySem.W.mg_none_of X G n_list, n_max := PySem.W.mg_none_of X G n_max, n_min := PySem.W.mg_none_of X G n_min, n_range := PySem.W.mg_none_of X G n_range, n_set := PySem.W.mg_none_of X G n_set, n_sorted := PySem.W.mg_none_of X G n_sorted, n_tuple := PySem.W.mg_none_of X G n_tuple, g_GameError := PySem.W.mg_of X G a_GameError, g_NoGame := PySem.W.mg_of X G a_NoGame, g_NoRoad := PySem.W.mg_of X G a_NoRoad, g_NoBoard := PySem.W.mg_of X G a_NoBoard, g_NoNumber := PySem.W.mg_of X G a_NoNumber, g_NoText := PySem.W.mg_of X G a_NoText, g_NoName := PySem.W.mg_of X G a_NoName, g_NoRow := PySem.W.mg_of X G a_NoRow, g_Book := PySem.W.mg_of X G a_Book, x_GameError := ⟨PySem.W.mg_of X G a_GameError, xx_GameError, xk_GameError, xb_GameError, xt_GameError⟩, m_GameError := PySem.W.exm_ref xb_GameError xd_GameError xt_GameError xs_GameError, x_NoBoard := ⟨PySem.W.mg_of X G a_NoBoard, xx_NoBoard, xk_NoBoard, xb_NoBoard, xt_NoBoard⟩, m_NoBoard := PySem.W.exm_ref xb_GameError xd_GameError xt_GameError xs_NoBoard, x_NoGame := ⟨PySem.W.mg_of X G a_NoGame, xx_NoGame, xk_NoGame, xb_NoGame, xt_NoGame⟩, m_NoGame := PySem.W.exm_ref xb_GameError xd_GameError xt_GameError xs_NoGame, x_NoName := ⟨PySem.W.mg_of X G a_NoName, xx_NoName, xk_NoName, xb_NoName, xt_NoName⟩, m_NoName := PySem.W.exm_ref xb_GameError xd_GameError xt_GameError xs_NoName, x_NoNumber := ⟨PySem.W.mg_of X G a_NoNumber, xx_NoNumber, xk_NoNumber, xb_NoNumber, xt_NoNumber⟩, m_NoNumber := PySem.W.exm_ref xb_GameError xd_GameError xt_GameError xs_NoNumber, x_NoRoad := ⟨PySem.W.mg_of X G a_NoRoad, xx_NoRoad, xk_NoRoad, xb_NoRoad, xt_NoRoad⟩, m_NoRoad := PySem.W.exm_ref xb_GameError xd_GameError xt_GameError xs_NoRoad, x_NoRow := ⟨PySem.W.mg_of X G a_NoRow, xx_NoRow, xk_NoRow, xb_NoRow, xt_NoRow⟩, m_NoRow := PySem.W.exm_ref xb_GameError xd_GameError xt_GameError xs_NoRow, x_NoText := ⟨PySem.W.mg_of X G a_NoText, xx_NoText, xk_NoText, xb_NoText, xt_NoText⟩, m_NoText := PySem.W.exm_ref xb_GameError xd_GameError xt_GameError xs_NoText, e_GameError := ⟨ya_GameError, yg_GameError, xb_GameError, xd_GameError, yc_GameError, x_get, x_tak, ym_GameError⟩, iv_GameError := yv_GameError, i_GameError_GameError := yi_GameError_GameError, i_GameError_NoBoard := yi_GameError_NoBoard, i_GameError_NoGame := yi_GameError_NoGame, i_GameError_NoName := yi_GameError_NoName, i_GameError_NoNumber := yi_GameError_NoNumber, i_GameError_NoRoad := yi_GameError_NoRoad, i_GameError_NoRow := yi_GameError_NoRow, i_GameError_NoText := yi_GameError_NoText, e_NoBoard := ⟨ya_NoBoard, yg_NoBoard, xb_NoBoard, xd_NoBoard, yc_NoBoard, x_get, x_tak, ym_NoBoard⟩, iv_NoBoard := yv_NoBoard, i_NoBoard_GameError := yi_NoBoard_GameError, i_NoBoard_NoBoard := yi_NoBoard_NoBoard, i_NoBoard_NoGame := yi_NoBoard_NoGame, i_NoBoard_NoName := yi_NoBoard_NoName, i_NoBoard_NoNumber := yi_NoBoard_NoNumber, i_NoBoard_NoRoad := yi_NoBoard_NoRoad, i_NoBoard_NoRow := yi_NoBoard_NoRow, i_NoBoard_NoText := yi_NoBoard_NoText, e_NoGame := ⟨ya_NoGame, yg_NoGame, xb_NoGame, xd_NoGame, yc_NoGame, x_get, x_tak, ym_NoGame⟩, iv_NoGame := yv_NoGame, i_NoGame_GameError := yi_NoGame_GameError, i_NoGame_NoBoard := yi_NoGame_NoBoard, i_NoGame_NoGame := yi_NoGame_NoGame, i_NoGame_NoName := yi_NoGame_NoName, i_NoGame_NoNumber := yi_NoGame_NoNumber, i_NoGame_NoRoad := yi_NoGame_NoRoad, i_NoGame_NoRow := yi_NoGame_NoRow, i_NoGame_NoText := yi_NoGame_NoText, e_NoName := ⟨ya_NoName, yg_NoName, xb_NoName, xd_NoName, yc_NoName, x_get, x_tak, ym_NoName⟩, iv_NoName := yv_NoName, i_NoName_GameError := yi_NoName_GameError, i_NoName_NoBoard := yi_NoName_NoBoard, i_NoName_NoGame := yi_NoName_NoGame, i_NoName_NoName := yi_NoName_NoName, i_NoName_NoNumber := yi_NoName_NoNumber, i_NoName_NoRoad := yi_NoName_NoRoad, i_NoName_NoRow := yi_NoName_NoRow, i_NoName_NoText := yi_NoName_NoText, e_NoNumber := ⟨ya_NoNumber, yg_NoNumber, xb_NoNumber, xd_NoNumber, yc_NoNumber, x_get, x_tak, ym_NoNumber⟩, iv_NoNumber := yv_NoNumber, i_NoNumber_GameError := yi_NoNumber_GameError, i_NoNumber_NoBoard := yi_NoNumber_NoBoard, i_NoNumber_NoGame := yi_NoNumber_NoGame, i_NoNumber_NoName := yi_NoNumber_NoName, i_NoNumber_NoNumber := yi_NoNumber_NoNumber, i_NoNumber_NoRoad := yi_NoNumber_NoRoad, i_NoNumber_NoRow := yi_NoNumber_NoRow, i_NoNumber_NoText := yi_NoNumber_NoText, e_NoRoad := ⟨ya_NoRoad, yg_NoRoad, xb_NoRoad, xd_NoRoad, yc_NoRoad, x_get, x_tak, ym_NoRoad⟩, iv_NoRoad := yv_NoRoad, i_NoRoad_GameError := yi_NoRoad_GameError, i_NoRoad_NoBoard := yi_NoRoad_NoBoard, i_NoRoad_NoGame := yi_NoRoad_NoGame, i_NoRoad_NoName := yi_NoRoad_NoName, i_NoRoad_NoNumber := yi_NoRoad_NoNumber, i_NoRoad_NoRoad := yi_NoRoad_NoRoad, i_NoRoad_NoRow := yi_NoRoad_NoRow, i_NoRoad_NoText := yi_NoRoad_NoText, e_NoRow := ⟨ya_NoRow, yg_NoRow, xb_NoRow, xd_NoRow, yc_NoRow, x_get, x_tak, ym_NoRow⟩, iv_NoRow := yv_NoRow, i_NoRow_GameError := yi_NoRow_GameError, i_NoRow_NoBoard := yi_NoRow_NoBoard, i_NoRow_NoGame := yi_NoRow_NoGame, i_NoRow_NoName := yi_NoRow_NoName, i_NoRow_NoNumber := yi_NoRow_NoNumber, i_NoRow_NoRoad := yi_NoRow_NoRoad, i_NoRow_NoRow := yi_NoRow_NoRow, i_NoRow_NoText := yi_NoRow_NoText, e_NoText := ⟨ya_NoText, yg_NoText, xb_NoText, xd_NoText, yc_NoText, x_get, x_tak, ym_NoText⟩, iv_NoText := yv_NoText, i_NoText_GameError := yi_NoText_GameError, i_NoText_NoBoard := yi_NoText_NoBoard, i_NoText_NoGame := yi_NoText_NoGame, i_NoText_NoName := yi_NoText_NoName, i_NoText_NoNumber := yi_NoText_NoNumber, i_NoText_NoRoad := yi_NoText_NoRoad, i_NoText_NoRow := yi_NoText_NoRow, i_NoText_NoText := yi_NoText_NoText, cl_Book := ⟨pg_Book, hd_Book, po_Book, sa_Book⟩, na_Book_depths := na_Book_depths, na_Book_moves := na_Book_moves, na_Book_numbers := na_Book_numbers, F_law_draw := ⟨_, _, fun_mk (st := s_law_draw) l_law_draw c_law_draw k_law_draw, PySem.W.mg_of X G a_law_draw, ((fun_mk (st := s_law_draw) l_law_draw c_law_draw k_law_draw).binds (ps := ["deck", "many"]) fun _ _ _ _ _ _ us hl => match us, hl with | [_, _], _ => rfl)⟩, F_law_deck := ⟨_, _, fun_mk (st := s_law_deck) l_law_deck c_law_deck k_law_deck, PySem.W.mg_of X G a_law_deck, ((fun_mk (st := s_law_deck) l_law_deck c_law_deck k_law_deck).binds (ps := ["script"]) fun _ _ _ _ _ _ us hl => match us, hl with | [_], _ => rfl)⟩, F_Book_need := ⟨_, _, fun_mk (st := s_Book_need) l_Book_need c_Book_need k_Book_need, ⟨a_Book_need, i_Book_need, k_Book_need⟩, ((fun_mk (st := s_Book_need) l_Book_need c_Book_need k_Book_need).binds (ps := ["self", "g"]) fun _ _ _ _ _ _ us hl => match us, hl with | [_, _], _ => rfl)⟩, F_Book_game := ⟨_, _, fun_mk (st := s_Book_game) l_Book_game c_Book_game k_Book_game, ⟨a_Book_game, i_Book_game, k_Book_game⟩, ((fun_mk (st := s_Book_game) l_Book_game c_Book_game k_Book_game).binds (ps := ["self", "lefts", "rights"]) fun _ _ _ _ _ _ us hl => match us, hl with | [_, _, _], _ => rfl)⟩, F_Book_init := ⟨_, _, fun_mk (st := s_Book_init) l_Book_init c_Book_init k_Book_init, ⟨mk_Book, a_Book_init, i_Book_init, kc_Book⟩, ((fun_mk (st := s_Book_init) l_Book_init c_Book_init k_Book_init).binds (ps := ["self"]) fun _ _ _ _ _ _ us hl => match us, hl with | [_], _ => rfl)⟩, F_Book_many := ⟨_, _, fun_mk (st := s_Book_many) l_Book_many c_Book_many k_Book_many, ⟨a_Book_many, i_Book_many, k_Book_many⟩, ((fun_mk (st := s_Book_many) l_Book_many c_Book_many k_Book_many).binds (ps := ["self"]) fun _ _ _ _ _ _ us hl => match us, hl with | [_], _ => rfl)⟩, F_law_moves := ⟨_, _, fun_mk (st := s_law_moves) l_law_moves c_law_moves k_law_moves, PySem.W.mg_of X G a_law_moves, ((fun_mk (st := s_law_moves) l_law_moves c_law_moves k_law_moves).binds (ps := ["deck", "many"]) fun _ _ _ _ _ _ us hl => match us, hl with | [_, _], _ => rfl)⟩, F_law_grown := ⟨_, _, fun_mk (st := s_law_grown) l_law_grown c_law_grown k_law_grown, PySem.W.mg_of X G a_law_grown, ((fun_mk (st := s_law_grown) l_law_grown c_law_grown k_law_grown).binds (ps := ["deck", "book", "many"]) fun _ _ _ _ _ _ us hl => match us, hl with | [_, _, _], _ => rfl)⟩, F_law_kinds := ⟨_, _, fun_mk (st := s_law_kinds) l_law_kinds c_law_kinds k_law_kinds, PySem.W.mg_of X G a_law_kinds, ((fun_mk (st := s_law_kinds) l_law_kinds c_law_kinds k_law_kinds).binds (ps := ["caught", "due"]) fun _ _ _ _ _ _ us hl => match us, hl with | [_, _], _ => rfl)⟩, F_law_asked := ⟨_, _, fun_mk (st := s_law_asked) l_law_asked c_law_asked k_law_asked, PySem.W.mg_of X G a_law_asked, ((fun_mk (st := s_law_asked) l_law_asked c_law_asked k_law_asked).binds (ps := ["book", "way", "thing", "some", "other"]) fun _ _ _ _ _ _ us hl => match us, hl with | [_, _, _, _, _], _ => rfl)⟩, F_law_refused := ⟨_, _, fun_mk (st := s_law_refused) l_law_refused c_law_refused k_law_refused, PySem.W.mg_of X G a_law_refused, ((fun_mk (st := s_law_refused) l_law_refused c_law_refused k_law_refused).binds (ps := ["book", "way", "thing", "some", "other"]) fun _ _ _ _ _ _ us hl => match us, hl with | [_, _, _, _, _], _ => rfl)⟩, F_law_depths := ⟨_, _, fun_mk (st := s_law_depths) l_law_depths c_law_depths k_law_depths, PySem.W.mg_of X G a_law_depths, ((fun_mk (st := s_law_depths) l_law_depths c_law_depths k_law_depths).binds (ps := ["rows"]) fun _ _ _ _ _ _ us hl => match us, hl with | [_], _ => rfl)⟩, F_Book_lefts := ⟨_, _, fun_mk (st := s_Book_lefts) l_Book_lefts c_Book_lefts k_Book_lefts, ⟨a_Book_lefts, i_Book_lefts, k_Book_lefts⟩, ((fun_mk (st := s_Book_lefts) l_Book_lefts c_Book_lefts k_Book_lefts).binds (ps := ["self", "g"]) fun _ _ _ _ _ _ us hl => match us, hl with | [_, _], _ => rfl)⟩, F_Book_rights := ⟨_, _, fun_mk (st := s_Book_rights) l_Book_rights c_Book_rights k_Book_rights, ⟨a_Book_rights, i_Book_rights, k_Book_rights⟩, ((fun_mk (st := s_Book_rights) l_Book_rights c_Book_rights k_Book_rights).binds (ps := ["self", "g"]) fun _ _ _ _ _ _ us hl => match us, hl with | [_, _], _ => rfl)⟩, F_Book_depth := ⟨_, _, fun_mk (st := s_Book_depth) l_Book_depth c_Book_depth k_Book_depth, ⟨a_Book_depth, i_Book_depth, k_Book_depth⟩, ((fun_mk (st := s_Book_depth) l_Book_depth c_Book_depth k_Book_depth).binds (ps := ["self", "g"]) fun _ _ _ _ _ _ us hl => match us, hl with | [_, _], _ => rfl)⟩ }
  exact ⟨_, fun s v => .of_eq rfl, fun base _ _ => ok_law T (fun_mk (st := s_law) l_law c_law k_law)⟩
theorem walk {l : PySem.W.OpenLaw} {q : Program} {loose : List Str} {XP : (Str → Option Value) → Heap → Prop} {YP : World → Heap → Prop} {d : DefRec} {K : Params → PySem.W.Frag} (hn : l.most = some 63) (hdf : d.params.defaults = [])
    (hY : ∀ (w : World) (h : Heap), YP w h → (K w.params).In h)
    (F : ∀ (w : World) (mg : Str → Option Value) (fa : Addr) (h : Heap), (K w.params).In h → h.Ns mainGlobals mg → mg d.name = some (.ref fa) →
      ∃ fd : FuncData, (∀ (s : Shared) (u : Value), BindsTo s fd ⟨[u], []⟩ [("script", u)]) ∧ ∀ base : Heap, (K w.params).In base → base.Ns mainGlobals mg → FnOk l.prog w (K w.params) mg base CX0 7 fa fd ["script"] (sp_law_law (K w.params))) :
    PySem.W.WalkO q loose XP YP l.row.toRowW d [] (fun f vs => PySem.call f vs) :=
  L2.walk_of (n := 63) (k := 7) (x := "script") (CX := fun _ => CX0) (sp := fun w => sp_law_law (K w.params)) hn (by decide) hdf ⟨rfl, by decide, by decide⟩ hY F (fun _ H a ns hl _ hS => ⟨rfl, a, ns, rfl, hS, hl, fun _ => rfl⟩) fun _ _ _ _ _ z => z
end Hm

open PySem PySem.W PyProof.Rows in
set_option maxRecDepth 100000 in
set_option maxHeartbeats 0 in
theorem PySem.Challenge.cw_hotmoves_k04_no_games_refused_holds : PySem.Challenge.rw_hotmoves_k04_no_games_refused.Holds := by
  w_on; o_law; k_head; (case hw => w_witness2)
  k_fill
  refine Hm.walk (l := PySem.Challenge.rw_hotmoves_k04_no_games_refused) rfl rfl (fun w h Y => PySem.W.kIn_of Y) ?F
  case F =>
    intro w mg fa h KX G hmg
    refine' Hm.all_mk KX G hmg ?a_GameError ?a_NoGame ?a_NoRoad ?a_NoBoard ?a_NoNumber ?a_NoText ?a_NoName ?a_NoRow ?a_Book ?pg_Book ?hd_Book ?po_Book ?sa_Book ?mk_Book ?kc_Book ?na_Book_depths ?na_Book_moves ?na_Book_numbers ?xk_GameError ?xx_GameError ?xb_GameError ?xt_GameError ?xd_GameError ?xs_GameError ?xk_NoBoard ?xx_NoBoard ?xb_NoBoard ?xt_NoBoard ?xd_NoBoard ?xs_NoBoard ?xk_NoGame ?xx_NoGame ?xb_NoGame ?xt_NoGame ?xd_NoGame ?xs_NoGame ?xk_NoName ?xx_NoName ?xb_NoName ?xt_NoName ?xd_NoName ?xs_NoName ?xk_NoNumber ?xx_NoNumber ?xb_NoNumber ?xt_NoNumber ?xd_NoNumber ?xs_NoNumber ?xk_NoRoad ?xx_NoRoad ?xb_NoRoad ?xt_NoRoad ?xd_NoRoad ?xs_NoRoad ?xk_NoRow ?xx_NoRow ?xb_NoRow ?xt_NoRow ?xd_NoRow ?xs_NoRow ?xk_NoText ?xx_NoText ?xb_NoText ?xt_NoText ?xd_NoText ?xs_NoText ?x_get ?x_tak ?ya_GameError ?yg_GameError ?yc_GameError ?ym_GameError ?yv_GameError ?yi_GameError_GameError ?yi_GameError_NoBoard ?yi_GameError_NoGame ?yi_GameError_NoName ?yi_GameError_NoNumber ?yi_GameError_NoRoad ?yi_GameError_NoRow ?yi_GameError_NoText ?ya_NoBoard ?yg_NoBoard ?yc_NoBoard ?ym_NoBoard ?yv_NoBoard ?yi_NoBoard_GameError ?yi_NoBoard_NoBoard ?yi_NoBoard_NoGame ?yi_NoBoard_NoName ?yi_NoBoard_NoNumber ?yi_NoBoard_NoRoad ?yi_NoBoard_NoRow ?yi_NoBoard_NoText ?ya_NoGame ?yg_NoGame ?yc_NoGame ?ym_NoGame ?yv_NoGame ?yi_NoGame_GameError ?yi_NoGame_NoBoard ?yi_NoGame_NoGame ?yi_NoGame_NoName ?yi_NoGame_NoNumber ?yi_NoGame_NoRoad ?yi_NoGame_NoRow ?yi_NoGame_NoText ?ya_NoName ?yg_NoName ?yc_NoName ?ym_NoName ?yv_NoName ?yi_NoName_GameError ?yi_NoName_NoBoard ?yi_NoName_NoGame ?yi_NoName_NoName ?yi_NoName_NoNumber ?yi_NoName_NoRoad ?yi_NoName_NoRow ?yi_NoName_NoText ?ya_NoNumber ?yg_NoNumber ?yc_NoNumber ?ym_NoNumber ?yv_NoNumber ?yi_NoNumber_GameError ?yi_NoNumber_NoBoard ?yi_NoNumber_NoGame ?yi_NoNumber_NoName ?yi_NoNumber_NoNumber ?yi_NoNumber_NoRoad ?yi_NoNumber_NoRow ?yi_NoNumber_NoText ?ya_NoRoad ?yg_NoRoad ?yc_NoRoad ?ym_NoRoad ?yv_NoRoad ?yi_NoRoad_GameError ?yi_NoRoad_NoBoard ?yi_NoRoad_NoGame ?yi_NoRoad_NoName ?yi_NoRoad_NoNumber ?yi_NoRoad_NoRoad ?yi_NoRoad_NoRow ?yi_NoRoad_NoText ?ya_NoRow ?yg_NoRow ?yc_NoRow ?ym_NoRow ?yv_NoRow ?yi_NoRow_GameError ?yi_NoRow_NoBoard ?yi_NoRow_NoGame ?yi_NoRow_NoName ?yi_NoRow_NoNumber ?yi_NoRow_NoRoad ?yi_NoRow_NoRow ?yi_NoRow_NoText ?ya_NoText ?yg_NoText ?yc_NoText ?ym_NoText ?yv_NoText ?yi_NoText_GameError ?yi_NoText_NoBoard ?yi_NoText_NoGame ?yi_NoText_NoName ?yi_NoText_NoNumber ?yi_NoText_NoRoad ?yi_NoText_NoRow ?yi_NoText_NoText ?n_ValueError ?n_bool ?n_int ?n_isinstance ?n_len ?n_list ?n_max ?n_min ?n_range ?n_set ?n_sorted ?n_tuple ?a_law_draw ?l_law_draw ?c_law_draw ?k_law_draw ?a_law_deck ?l_law_deck ?c_law_deck ?k_law_deck ?a_Book_need ?i_Book_need ?l_Book_need ?c_Book_need ?k_Book_need ?a_Book_game ?i_Book_game ?l_Book_game ?c_Book_game ?k_Book_game ?a_Book_init ?i_Book_init ?l_Book_init ?c_Book_init ?k_Book_init ?a_Book_many ?i_Book_many ?l_Book_many ?c_Book_many ?k_Book_many ?a_law_moves ?l_law_moves ?c_law_moves ?k_law_moves ?a_law_grown ?l_law_grown ?c_law_grown ?k_law_grown ?a_law_kinds ?l_law_kinds ?c_law_kinds ?k_law_kinds ?a_law_asked ?l_law_asked ?c_law_asked ?k_law_asked ?a_law_refused ?l_law_refused ?c_law_refused ?k_law_refused ?a_law_depths ?l_law_depths ?c_law_depths ?k_law_depths ?a_Book_lefts ?i_Book_lefts ?l_Book_lefts ?c_Book_lefts ?k_Book_lefts ?a_Book_rights ?i_Book_rights ?l_Book_rights ?c_Book_rights ?k_Book_rights ?a_Book_depth ?i_Book_depth ?l_Book_depth ?c_Book_depth ?k_Book_depth ?a_law ?l_law ?c_law ?k_law
    (case a_GameError => k_is)
    (case a_NoGame => k_is)
    (case a_NoRoad => k_is)
    (case a_NoBoard => k_is)
    (case a_NoNumber => k_is)
    (case a_NoText => k_is)
    (case a_NoName => k_is)
    (case a_NoRow => k_is)
    (case a_Book => k_is)
    (case pg_Book => k_is)
    (case hd_Book => k_is)
    (case po_Book => k_is)
    (case sa_Book => k_is)
    (case mk_Book => k_is)
    (case kc_Book => k_is)
    (case na_Book_depths => k_is)
    (case na_Book_moves => k_is)
    (case na_Book_numbers => k_is)
    (case xk_GameError => k_is)
    (case xx_GameError => k_exc)
    (case xb_GameError => k_is)
    (case xt_GameError => k_is)
    (case xd_GameError => k_is)
    (case xs_GameError => first | rfl | k_is)
    (case xk_NoBoard => k_is)
    (case xx_NoBoard => k_exc)
    (case xb_NoBoard => k_is)
    (case xt_NoBoard => k_is)
    (case xd_NoBoard => k_is)
    (case xs_NoBoard => first | rfl | k_is)
    (case xk_NoGame => k_is)
    (case xx_NoGame => k_exc)
    (case xb_NoGame => k_is)
    (case xt_NoGame => k_is)
    (case xd_NoGame => k_is)
    (case xs_NoGame => first | rfl | k_is)
    (case xk_NoName => k_is)
    (case xx_NoName => k_exc)
    (case xb_NoName => k_is)
    (case xt_NoName => k_is)
    (case xd_NoName => k_is)
    (case xs_NoName => first | rfl | k_is)
    (case xk_NoNumber => k_is)
    (case xx_NoNumber => k_exc)
    (case xb_NoNumber => k_is)
    (case xt_NoNumber => k_is)
    (case xd_NoNumber => k_is)
    (case xs_NoNumber => first | rfl | k_is)
    (case xk_NoRoad => k_is)
    (case xx_NoRoad => k_exc)
    (case xb_NoRoad => k_is)
    (case xt_NoRoad => k_is)
    (case xd_NoRoad => k_is)
    (case xs_NoRoad => first | rfl | k_is)
    (case xk_NoRow => k_is)
    (case xx_NoRow => k_exc)
    (case xb_NoRow => k_is)
    (case xt_NoRow => k_is)
    (case xd_NoRow => k_is)
    (case xs_NoRow => first | rfl | k_is)
    (case xk_NoText => k_is)
    (case xx_NoText => k_exc)
    (case xb_NoText => k_is)
    (case xt_NoText => k_is)
    (case xd_NoText => k_is)
    (case xs_NoText => first | rfl | k_is)
    (case x_get => k_is)
    (case x_tak => k_is)
    (case ya_GameError => k_is)
    (case yg_GameError => k_is)
    (case yc_GameError => k_is)
    (case ym_GameError => k_is)
    (case yv_GameError => first | kit_is | rfl)
    (case yi_GameError_GameError => first | kit_is | rfl)
    (case yi_GameError_NoBoard => first | kit_is | rfl)
    (case yi_GameError_NoGame => first | kit_is | rfl)
    (case yi_GameError_NoName => first | kit_is | rfl)
    (case yi_GameError_NoNumber => first | kit_is | rfl)
    (case yi_GameError_NoRoad => first | kit_is | rfl)
    (case yi_GameError_NoRow => first | kit_is | rfl)
    (case yi_GameError_NoText => first | kit_is | rfl)
    (case ya_NoBoard => k_is)
    (case yg_NoBoard => k_is)
    (case yc_NoBoard => k_is)
    (case ym_NoBoard => k_is)
    (case yv_NoBoard => first | kit_is | rfl)
    (case yi_NoBoard_GameError => first | kit_is | rfl)
    (case yi_NoBoard_NoBoard => first | kit_is | rfl)
    (case yi_NoBoard_NoGame => first | kit_is | rfl)
    (case yi_NoBoard_NoName => first | kit_is | rfl)
    (case yi_NoBoard_NoNumber => first | kit_is | rfl)
    (case yi_NoBoard_NoRoad => first | kit_is | rfl)
    (case yi_NoBoard_NoRow => first | kit_is | rfl)
    (case yi_NoBoard_NoText => first | kit_is | rfl)
    (case ya_NoGame => k_is)
    (case yg_NoGame => k_is)
    (case yc_NoGame => k_is)
    (case ym_NoGame => k_is)
    (case yv_NoGame => first | kit_is | rfl)
    (case yi_NoGame_GameError => first | kit_is | rfl)
    (case yi_NoGame_NoBoard => first | kit_is | rfl)
    (case yi_NoGame_NoGame => first | kit_is | rfl)
    (case yi_NoGame_NoName => first | kit_is | rfl)
    (case yi_NoGame_NoNumber => first | kit_is | rfl)
    (case yi_NoGame_NoRoad => first | kit_is | rfl)
    (case yi_NoGame_NoRow => first | kit_is | rfl)
    (case yi_NoGame_NoText => first | kit_is | rfl)
    (case ya_NoName => k_is)
    (case yg_NoName => k_is)
    (case yc_NoName => k_is)
    (case ym_NoName => k_is)
    (case yv_NoName => first | kit_is | rfl)
    (case yi_NoName_GameError => first | kit_is | rfl)
    (case yi_NoName_NoBoard => first | kit_is | rfl)
    (case yi_NoName_NoGame => first | kit_is | rfl)
    (case yi_NoName_NoName => first | kit_is | rfl)
    (case yi_NoName_NoNumber => first | kit_is | rfl)
    (case yi_NoName_NoRoad => first | kit_is | rfl)
    (case yi_NoName_NoRow => first | kit_is | rfl)
    (case yi_NoName_NoText => first | kit_is | rfl)
    (case ya_NoNumber => k_is)
    (case yg_NoNumber => k_is)
    (case yc_NoNumber => k_is)
    (case ym_NoNumber => k_is)
    (case yv_NoNumber => first | kit_is | rfl)
    (case yi_NoNumber_GameError => first | kit_is | rfl)
    (case yi_NoNumber_NoBoard => first | kit_is | rfl)
    (case yi_NoNumber_NoGame => first | kit_is | rfl)
    (case yi_NoNumber_NoName => first | kit_is | rfl)
    (case yi_NoNumber_NoNumber => first | kit_is | rfl)
    (case yi_NoNumber_NoRoad => first | kit_is | rfl)
    (case yi_NoNumber_NoRow => first | kit_is | rfl)
    (case yi_NoNumber_NoText => first | kit_is | rfl)
    (case ya_NoRoad => k_is)
    (case yg_NoRoad => k_is)
    (case yc_NoRoad => k_is)
    (case ym_NoRoad => k_is)
    (case yv_NoRoad => first | kit_is | rfl)
    (case yi_NoRoad_GameError => first | kit_is | rfl)
    (case yi_NoRoad_NoBoard => first | kit_is | rfl)
    (case yi_NoRoad_NoGame => first | kit_is | rfl)
    (case yi_NoRoad_NoName => first | kit_is | rfl)
    (case yi_NoRoad_NoNumber => first | kit_is | rfl)
    (case yi_NoRoad_NoRoad => first | kit_is | rfl)
    (case yi_NoRoad_NoRow => first | kit_is | rfl)
    (case yi_NoRoad_NoText => first | kit_is | rfl)
    (case ya_NoRow => k_is)
    (case yg_NoRow => k_is)
    (case yc_NoRow => k_is)
    (case ym_NoRow => k_is)
    (case yv_NoRow => first | kit_is | rfl)
    (case yi_NoRow_GameError => first | kit_is | rfl)
    (case yi_NoRow_NoBoard => first | kit_is | rfl)
    (case yi_NoRow_NoGame => first | kit_is | rfl)
    (case yi_NoRow_NoName => first | kit_is | rfl)
    (case yi_NoRow_NoNumber => first | kit_is | rfl)
    (case yi_NoRow_NoRoad => first | kit_is | rfl)
    (case yi_NoRow_NoRow => first | kit_is | rfl)
    (case yi_NoRow_NoText => first | kit_is | rfl)
    (case ya_NoText => k_is)
    (case yg_NoText => k_is)
    (case yc_NoText => k_is)
    (case ym_NoText => k_is)
    (case yv_NoText => first | kit_is | rfl)
    (case yi_NoText_GameError => first | kit_is | rfl)
    (case yi_NoText_NoBoard => first | kit_is | rfl)
    (case yi_NoText_NoGame => first | kit_is | rfl)
    (case yi_NoText_NoName => first | kit_is | rfl)
    (case yi_NoText_NoNumber => first | kit_is | rfl)
    (case yi_NoText_NoRoad => first | kit_is | rfl)
    (case yi_NoText_NoRow => first | kit_is | rfl)
    (case yi_NoText_NoText => first | kit_is | rfl)
    (case n_ValueError => k_is)
    (case n_bool => k_is)
    (case n_int => k_is)
    (case n_isinstance => k_is)
    (case n_len => k_is)
    (case n_list => k_is)
    (case n_max => k_is)
    (case n_min => k_is)
    (case n_range => k_is)
    (case n_set => k_is)
    (case n_sorted => k_is)
    (case n_tuple => k_is)
    (case a_law_draw => k_is)
    (case l_law_draw => k_is)
    (case c_law_draw => k_is)
    (case k_law_draw => k_is)
    (case a_law_deck => k_is)
    (case l_law_deck => k_is)
    (case c_law_deck => k_is)
    (case k_law_deck => k_is)
    (case a_Book_need => k_is)
    (case i_Book_need => k_is)
    (case l_Book_need => k_is)
    (case c_Book_need => k_is)
    (case k_Book_need => k_is)
    (case a_Book_game => k_is)
    (case i_Book_game => k_is)
    (case l_Book_game => k_is)
    (case c_Book_game => k_is)
    (case k_Book_game => k_is)
    (case a_Book_init => k_is)
    (case i_Book_init => k_is)
    (case l_Book_init => k_is)
    (case c_Book_init => k_is)
    (case k_Book_init => k_is)
    (case a_Book_many => k_is)
    (case i_Book_many => k_is)
    (case l_Book_many => k_is)
    (case c_Book_many => k_is)
    (case k_Book_many => k_is)
    (case a_law_moves => k_is)
    (case l_law_moves => k_is)
    (case c_law_moves => k_is)
    (case k_law_moves => k_is)
    (case a_law_grown => k_is)
    (case l_law_grown => k_is)
    (case c_law_grown => k_is)
    (case k_law_grown => k_is)
    (case a_law_kinds => k_is)
    (case l_law_kinds => k_is)
    (case c_law_kinds => k_is)
    (case k_law_kinds => k_is)
    (case a_law_asked => k_is)
    (case l_law_asked => k_is)
    (case c_law_asked => k_is)
    (case k_law_asked => k_is)
    (case a_law_refused => k_is)
    (case l_law_refused => k_is)
    (case c_law_refused => k_is)
    (case k_law_refused => k_is)
    (case a_law_depths => k_is)
    (case l_law_depths => k_is)
    (case c_law_depths => k_is)
    (case k_law_depths => k_is)
    (case a_Book_lefts => k_is)
    (case i_Book_lefts => k_is)
    (case l_Book_lefts => k_is)
    (case c_Book_lefts => k_is)
    (case k_Book_lefts => k_is)
    (case a_Book_rights => k_is)
    (case i_Book_rights => k_is)
    (case l_Book_rights => k_is)
    (case c_Book_rights => k_is)
    (case k_Book_rights => k_is)
    (case a_Book_depth => k_is)
    (case i_Book_depth => k_is)
    (case l_Book_depth => k_is)
    (case c_Book_depth => k_is)
    (case k_Book_depth => k_is)
    (case a_law => k_is)
    (case l_law => k_is)
    (case c_law => k_is)
    (case k_law => k_is)
