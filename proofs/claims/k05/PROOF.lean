import PyProof.Rows.All
import Wide.All
import OpenK.AllK
import Wide.FinOn
import HandS.ForMost
import HandS.ForExc
import HandS.Strs
import HandS.SetFor
import HandS.SortInts
import HandS.Deep
import HandS.Style
import HandS.Conv
import HandS.NoneIn
import HandS.IsInst
import HandS.Wide
import HandS.Codes
import HandS.Walk
import HandS.Zip
import HandS.StrMore
import HandS.RevRange
import HandS.Rev
import HandS.TupAny
import HandS.TupLen
import HandS.Steps
import HandS.Remove
import HandS.CallSlots
import HandS.ExcIs
import HandS.ExcValue
import KE.KDictDisplayH
import KE.KeyNested
import HandS.RaiseMore
import PySem.Challenge.RW_hotmoves_k05_whole_books_beside
set_option Elab.async false
set_option linter.all false
set_option maxRecDepth 100000
set_option maxHeartbeats 4000000
/-! F1: set(list of ints); sorted of a set of any size. -/
namespace Hm
open PySem PySem.Spec PyProof.Rows L2

/-- a set as it is made -/
abbrev emptySet (w : World) : Obj := { cls := .type "set", dict := none, data := .set #[] 0 (.fresh 0 0 (!w.params.followText "set-order")) }

section
variable {P : Program} {w : World} {A : Around} {E : Value → Shared → Prop} {s : Shared}

set_option maxHeartbeats 8000000 in
theorem set_of_list {l : Addr} {xs : Array Value} (ks : List Int) {Q : Value → Shared → Prop} (calm : A.handled = none) (isL : s.heap.IsList l xs) (are : IntsAre xs.toList ks) (few : ks.length + 1 < scanBound)
    (fin : ∀ (hp : Heap) (tk n : Nat), SetR w hp s.heap.objs.size (fun j => decide (j ∈ ks)) n → n ≤ ks.length → (∀ b o, s.heap.get? b = some o → hp.get? b = some o) → Q (.ref s.heap.objs.size) { s with heap := hp, toks := tk }) :
    wpAny (model P w) A (call (.type "set") [.ref l]) Q E s := by
  have sz : xs.size = ks.length := (Array.length_toList (xs := xs)).symm.trans (IntsAre.length are)
  have made := F.called_set.made
  have sub := F.called_set.sub
  obtain ⟨c, tl, mro⟩ := F.called_set.mro
  refine wpAny_call (codeAny_of_tree ?_)
  show wpAny _ _ (callAny (.type "set") _) _ _ _
  refine wpAny_pure ⟨Code.quiet_builtin _ (by decide +kernel), codeAny_builtin F.entry_type_call ?_⟩
  rw [Around.under_plain (weight_type_call_type "set" [.ref l] []) rfl]
  have f1 := F.called_set.notType
  have f2 := F.called_set.canCreate
  have f3 := F.typeCall_set_1 (.ref l)
  repeat (any_goals (first | assumption | wp_step))
  refine codeAny_mono (code_set_led1 (.ref l) (E := E) (Q₁ := fun v t => v = .ref s.heap.objs.size ∧ t = { s with heap := s.heap.push (emptySet w) }) ⟨rfl, rfl⟩) fun r t hr => ?_
  cases r with
  | error e => exact hr
  | ok fl =>
    cases fl with
    | next => exact hr.elim
    | brk => exact hr.elim
    | cont => exact hr.elim
    | ret v =>
      obtain ⟨rfl, rfl⟩ := hr
      have at0 : (s.heap.push (emptySet w)).get? s.heap.objs.size = some (emptySet w) := Heap.get?_push_size _ rfl
      have ty0 : Shared.TypeIs { s with heap := s.heap.push (emptySet w) } (.ref s.heap.objs.size) "set" := ⟨_, at0, rfl⟩
      have i1 := F.called_set.init.lookup
      have i2 := F.called_set.init.bind (.ref s.heap.objs.size)
      repeat (any_goals (first | assumption | wp_step))
      refine codeAny_mono (codeAny_call_builtin (R := wants (fun r t => r = .none ∧ ∃ hp tk n, t = { s with heap := hp, toks := tk } ∧ SetR w hp s.heap.objs.size (fun j => decide (j ∈ ks)) n ∧ n ≤ ks.length ∧ (∀ b o, s.heap.get? b = some o → hp.get? b = some o)) E)
        F.called_set.init.plain F.entry_set_init (check_set_init_1 ty0 ?_)) fun r t hr => ?_
      · obtain ⟨⟨oc, od, odt, osl⟩, got, e1, n0, e2⟩ := isL
        simp only at e1 e2
        subst e1 e2
        have got1 : (s.heap.push (emptySet w)).get? l = some { cls := .type "list", dict := od, data := .seq xs n0, slots := osl } := Heap.get?_push_of_some _ got
        have isL1 : (s.heap.push (emptySet w)).IsList l xs := ⟨_, got1, rfl, n0, rfl⟩
        have t1 := F.sub_list_set
        have t2 := F.sub_list_frozenset
        have t3 : (Value.type "list" == Value.type "dict") = false := by decide
        unfold Builtin.«set.__init__» noKeywords Builtin.Frozenset.updateFrom
        generalize eI : pyIter = I
        wp_walk
        subst eI
        refine wpAny_pyIter_list isL1 (wpAny_bind (wpAny_runValue ?_))
        have lt : l < s.heap.objs.size := Heap.lt_size got
        have calm3 : A.in1.in1.in1.handled = none := by simp [calm]
        have sz1 : (s.heap.push (emptySet w)).objs.size = s.heap.objs.size + 1 := Heap.size_push ..
        have neI : l ≠ (s.heap.push (emptySet w)).objs.size := by rw [sz1]; exact Nat.ne_of_lt (Nat.lt_succ_of_lt lt)
        have notS : s.heap.objs.size ∉ [(s.heap.push (emptySet w)).objs.size, l] := by
          rw [sz1]; intro z; simp only [List.mem_cons, List.not_mem_nil, or_false] at z
          rcases z with z | z
          · exact Nat.ne_of_lt (Nat.lt_succ_self _) z
          · exact Nat.ne_of_gt lt z
        have each : ∀ (i : Nat) (v : Value), xs[i]? = some v → ∃ k t, ks[i]? = some k ∧ v = .int k t := fun i v hv => by
          have hi : i < ks.length := by rw [← sz]; exact (Array.getElem?_eq_some_iff.mp hv).1
          obtain ⟨t, e⟩ := PyProof.Rows.IntsAre.int_at are i v (by rw [Array.getElem?_toList]; exact hv)
          exact ⟨ks[i], t, List.getElem?_eq_getElem hi, by rw [e, List.getD_eq_getElem?_getD, List.getElem?_eq_getElem hi]; rfl⟩
        refine set_update_ints ((Walks.list calm3 _ l neI xs).toS) s.heap.objs.size notS ks sz few each (xs.size - 0) 0 _ (by omega) (Nat.zero_le _)
          ⟨⟨_, Heap.get?_push_size _ rfl, rfl, rfl⟩, (isL1.push _)⟩ ?start ?done
        case start =>
          have g : ((s.heap.push (emptySet w)).push { cls := .type "list_iterator", data := .fields #[.ref l, .int 0 0] }).get? s.heap.objs.size = some (emptySet w) := Heap.get?_push_of_some _ at0
          exact ⟨0, Nat.le_refl 0, setR_new_at g⟩
        case done =>
          rintro ⟨hp, gs, dr, tk, os⟩ n mv nle R
          cases (show gs = s.gens from mv.gens)
          cases (show dr = s.drawn from mv.drawn)
          cases (show os = s.os from mv.os)
          show wpAny _ _ _ _ _ _
          refine wpAny_pure ?_
          show wpAny _ _ (ret Value.none) _ _ _
          rw [sz] at nle
          refine wpAny_pure ⟨rfl, hp, tk, n, rfl, R, nle, fun b o e => ?_⟩
          have b0 : b < s.heap.objs.size := Heap.lt_size e
          refine mv.heap b o (fun z => ?_) (Heap.get?_push_of_some _ (Heap.get?_push_of_some _ e))
          simp only [List.mem_cons, List.not_mem_nil, or_false] at z
          rw [sz1] at z
          rcases z with z | z
          · exact Nat.ne_of_lt b0 z
          · exact Nat.ne_of_lt (Nat.lt_succ_of_lt b0) z
      · cases r with
        | error e => exact hr
        | ok fl =>
          cases fl with
          | next => exact hr.elim
          | brk => exact hr.elim
          | cont => exact hr.elim
          | ret v =>
            obtain ⟨rfl, hp, tk, n, rfl, R, nle, keep⟩ := hr
            repeat (any_goals (first | assumption | wp_step))
            exact fin _ _ _ R nle keep

/-- sorted(s) of a set of ints of any size -/
theorem sorted_of_set {a : Addr} {S : Int → Bool} {n : Nat} {Q : Value → Shared → Prop} (R : SetR w s.heap a S n) (calm : A.handled = none)
    (fin : ∀ t p (out : Array Value) (c : Nat) (ns : List Int), (∀ b o, s.heap.get? b = some o → t.heap.get? b = some o) → t.gens = s.gens → t.os = s.os → s.heap.objs.size ≤ p →
      t.heap.get? p = some (seqObj "list" out c) → IntsAre out.toList ns → ns.Pairwise (· < ·) → (∀ k, k ∈ ns ↔ S k = true) → ns.length = n → Q (.ref p) t) :
    wpAny (model P w) A (call (.builtin "sorted") [.ref a]) Q E s := by
  obtain ⟨o, es, ep, t, ho, hex, hd, good, nd, mem, few, fits, num, ris, led⟩ := R
  refine Calls.call_function_entry kind_sorted plain_sorted entry_sorted (args_sorted1 _) ?_
  unfold Builtin.«sorted»
  refine wpAny_bind (m := checkCount "sorted" 1 1 _) (wpAny_pure ?_)
  refine wpAny_bind (collect_set (A := A.in1) calm ⟨o, ho, hex.1, hd⟩ fits few ris led fun s1 vs k1 big g1 o1 pm => ?_)
  have len : vs.length = n := by rw [pm.length_eq, List.length_map, Array.length_toList]; exact num
  have areI : IntsAre vs (vs.map Builtin.Re.reRawOf) := ints_of vs fun v hv => by
    obtain ⟨e, he, q⟩ := List.mem_map.mp (pm.mem_iff.mp hv)
    obtain ⟨k, tk, h1, _⟩ := good e he
    exact ⟨k, tk, q ▸ h1⟩
  have pk : (vs.map Builtin.Re.reRawOf).Perm (es.toList.map keyOf) := by
    have q := pm.map Builtin.Re.reRawOf
    rw [List.map_map] at q
    exact q
  have line : vs.length ≤ sizeLine := by
    rw [len, sizeLine_eq]; have : scanBound = 4096 := rfl; omega
  refine wpAny_bind (wpAny_newList ?_ line)
  have at1 : (s1.heap.push (seqObj "list" vs.toArray 0)).get? s1.heap.objs.size = some (seqObj "list" vs.toArray 0) := Heap.get?_push_size _ rfl
  refine wpAny_bind (wpAny_holding (wpAny_call_entry slot_list_sort ⟨_, at1, rfl⟩ entry_list_sort
    (SrtO.list_sort_ord SrtO.swo_int at1 line (fun h2 => SrtO.ints_sortable areI h2) fun out h1 h2 => ⟨_, rfl, ?_⟩) (args_list_sort _)))
  obtain ⟨j1, j2, j3⟩ := SrtO.ints_out areI h1 h2
  obtain ⟨c, hc⟩ := sortedHeap_at (vs := vs) (out := out.toArray) at1
  have pn : (out.map SrtO.iv).Perm (es.toList.map keyOf) := j2.trans pk
  refine wpAny_pure ⟨_, rfl, fin _ s1.heap.objs.size out.toArray c (out.map SrtO.iv) (fun b u e => ?_) g1 o1 big hc (by simpa using j1) (lt_of_le_nodup _ j3 (pn.nodup_iff.mpr nd)) (fun k => by rw [pn.mem_iff, ← mem k]) ?_⟩
  · have q := k1 b u e
    have lt := Heap.lt_size q
    show (sortedHeap (s1.heap.push (seqObj "list" vs.toArray 0)) s1.heap.objs.size vs out.toArray).get? b = some u
    rw [sortedHeap_old (Nat.ne_of_lt lt) (by rw [size_push']; exact Nat.lt_succ_of_lt lt)]
    exact Heap.get?_push_of_some _ q
  · rw [pn.length_eq, List.length_map, Array.length_toList]; exact num
end

section
variable {X : Cx}
/-- set(xs), xs a list of ints -/
def uSetI (K : PySem.W.Frag) (w : World) : List V → Hp → VK → Prop := fun xs H Q => ∃ (l : Addr) (ns : List Int), xs = [.ref l] ∧ SqL K H l (ns.map V.int) ∧ ns.length ≤ 4000 ∧
  ∀ (a : Addr) (n : Nat), H a = none → n ≤ ns.length → Q (.ref a) (upd H a (SetO w a (fun j => decide (j ∈ ns)) n))
theorem cu_setI (hc : X.calm = true) : CallR X (.type "set") (uSetI X.K X.w) := by
  intro pins s σ H xs us Q I r h
  obtain ⟨l, ns, rfl, hl, few, q⟩ := h
  rw [Vals.ref1 r]
  obtain ⟨its, rv, pl, hz⟩ := I.list hl
  have hs : scanBound = 4096 := rfl
  refine set_of_list ns (I.ok.hd hc) pl.isList (by simpa using rv.ints) (by omega) fun hp tk n R nle keep => ?_
  exact ⟨.ref _, upd H s.heap.objs.size (SetO X.w s.heap.objs.size (fun j => decide (j ∈ ns)) n), I.laid (t' := tk) keep (Nat.le_refl _) (setO_new R), rfl, q _ n (I.hok.fresh (Nat.le_refl _)) nle⟩
/-- sorted(s), s a set of ints -/
def uSortSet (w : World) : List V → Hp → VK → Prop := fun vs H Q => ∃ (a : Addr) (S : Int → Bool) (n : Nat), vs = [V.ref a] ∧ H a = some (SetO w a S n) ∧
  ∀ (ns : List Int) (p : Addr), ns.Pairwise (· < ·) → (∀ k : Int, k ∈ ns ↔ S k = true) → ns.length = n → H p = none → Q (.ref p) (upd H p (.lst (ns.map V.int)))
theorem cu_sortSet (hc : X.calm = true) : CallR X (.builtin "sorted") (uSortSet X.w) := by
  intro pins s σ H vs us Q I r h
  obtain ⟨a, S, n, rfl, ha, q⟩ := h
  have R := setO_get I ha
  have nb : n ≤ 4096 := by
    obtain ⟨_, es, _, _, _, _, _, _, _, _, few, _, num, _⟩ := R
    have hs : scanBound = 4096 := rfl
    omega
  rw [Vals.ref1 r]
  refine sorted_of_set R (I.ok.hd hc) fun s' p out c ns k g o big got areI up mem len => ?_
  have line : (ns.map V.int).length ≤ sizeLine := by rw [List.length_map, len, sizeLine_eq]; omega
  have new : H p = none := I.hok.fresh big
  have J : Inv X pins σ (upd H p (.lst (ns.map V.int))) { s with heap := s'.heap, gens := s'.gens, drawn := s'.drawn, toks := s'.toks } :=
    I.call (ch := []) (Un.laid k big new) (I.hok.laid k big ⟨line, out.toList, c, vals_of_ints areI, got⟩) (by rw [g]; exact I.bare) (fun _ z => nomatch z)
  have same : s' = { s with heap := s'.heap, gens := s'.gens, drawn := s'.drawn, toks := s'.toks } := by
    cases s'; cases s; cases o; rfl
  rw [same]
  exact ⟨.ref p, _, J, rfl, q ns p up mem len new⟩
end
end Hm

/-! F1b: dicts whose keys are nested tuples of ints and texts. -/
namespace Hm
open PySem PySem.Spec PyProof.Rows L2

mutual
/-- the value v is the key k, its tuples tracked -/
def NkV (H : Hp) : NestedKey → V → Prop
  | .none, v => v = .non
  | .num i, v => v = .int i
  | .text x, v => v = .str x
  | .tup ks, v => ∃ a vs, v = .ref a ∧ H a = some (.tup vs) ∧ NkVs H ks vs
def NkVs (H : Hp) : List NestedKey → List V → Prop
  | [], vs => vs = []
  | k :: ks, vs => ∃ v r, vs = v :: r ∧ NkV H k v ∧ NkVs H ks r
end
mutual
theorem NkV.keeps {H H' : Hp} (ht : ∀ b xs, H b = some (.tup xs) → H' b = some (.tup xs)) : ∀ (k : NestedKey) (v : V), NkV H k v → NkV H' k v
  | .none, _, h => by simpa only [NkV] using h
  | .num i, _, h => by simpa only [NkV] using h
  | .text x, _, h => by simpa only [NkV] using h
  | .tup ks, _, h => by
    simp only [NkV] at h ⊢
    obtain ⟨a, vs, e, ha, hs⟩ := h
    exact ⟨a, vs, e, ht _ _ ha, NkVs.keeps ht ks vs hs⟩
theorem NkVs.keeps {H H' : Hp} (ht : ∀ b xs, H b = some (.tup xs) → H' b = some (.tup xs)) : ∀ (ks : List NestedKey) (vs : List V), NkVs H ks vs → NkVs H' ks vs
  | [], _, h => by simpa only [NkVs] using h
  | k :: ks, _, h => by
    simp only [NkVs] at h ⊢
    obtain ⟨v, r, e, h1, h2⟩ := h
    exact ⟨v, r, e, NkV.keeps ht k v h1, NkVs.keeps ht ks r h2⟩
end
section
variable {P : Program} {w : World} {H : Hp} {h : Heap}
mutual
theorem nk_is (ok : HOk P w H h) : ∀ (k : NestedKey) (v : V) (u : Value), NkV H k v → RelV v u → NestedIs h k u
  | .none, _, _, e, r => by simp only [NkV] at e; subst e; cases r; exact .none
  | .num i, _, _, e, r => by simp only [NkV] at e; subst e; obtain ⟨t, rfl⟩ := r; exact .int i t
  | .text x, _, _, e, r => by simp only [NkV] at e; subst e; obtain ⟨t, rfl⟩ := r; exact .text x t
  | .tup ks, _, _, e, r => by
    simp only [NkV] at e
    obtain ⟨a, vs, rfl, ha, hs⟩ := e
    cases r
    obtain ⟨_, its, rv, o, h1, h2, n, h3⟩ := (show ObjOk P w H h a (.tup vs) from ok a _ ha)
    exact .tup h1 h2 h3 (by simpa using nks_are ok ks vs its hs rv)
theorem nks_are (ok : HOk P w H h) : ∀ (ks : List NestedKey) (vs : List V) (us : List Value), NkVs H ks vs → Vals vs us → NestedAll h ks us
  | [], _, _, e, r => by simp only [NkVs] at e; subst e; cases r; exact .nil
  | k :: ks, _, _, e, r => by
    simp only [NkVs] at e
    obtain ⟨v, rr, rfl, h1, h2⟩ := e
    cases r with
    | cons r1 r2 => exact .cons (nk_is ok k v _ h1 r1) (nks_are ok ks rr _ h2 r2)
end
end

/-- an entry: the key, its tuple's address, the value -/
abbrev NX := NestedKey × Addr × V
def NRel (p : NX) (q : NestedKey × Addr × Value) : Prop := p.1 = q.1 ∧ p.2.1 = q.2.1 ∧ RelV p.2.2 q.2.2
/-- the dict at a -/
def NdO (P : Program) (w : World) (a : Addr) (xs : List NX) : HO := .ext fun h => (a == sysModules) = false ∧ xs.length ≤ sizeLine ∧ ∃ ys, Paired NRel xs ys ∧
  ∃ o es ep, h.get? a = some o ∧ o.ExactDict ∧ o.data = .dict es ep ∧ es.toList = ys.map (entryOfKey (nestedKind P w)) ∧ (ys.map (·.1)).Nodup
structure NdAt (P : Program) (w : World) (H : Hp) (a : Addr) (xs : List NX) : Prop where
  here : H a = some (NdO P w a xs)
  keys : ∀ x ∈ xs, NkV H x.1 (.ref x.2.1) ∧ x.1.depth ≤ 8
def nval (xs : List NX) (k : NestedKey) : Option V := (xs.find? fun x => decide (x.1 = k)).map (·.2.2)
def nput (xs : List NX) (k : NestedKey) (a : Addr) (v : V) : List NX := if (nval xs k).isSome then xs.map fun x => if x.1 = k then (x.1, x.2.1, v) else x else xs ++ [(k, a, v)]

section
variable {P : Program} {w : World} {H H' : Hp} {h h' : Heap} {a : Addr} {xs : List NX}
theorem ndO_ok {ys : List (NestedKey × Addr × Value)} (z : (a == sysModules) = false) (l : xs.length ≤ sizeLine) (r : Paired NRel xs ys) (d : h.DictOfH (nestedKind P w) a ys) : ObjOk P w H h a (NdO P w a xs) := by
  obtain ⟨o, es, ep, e1, e2, e3, e4, e5, e6⟩ := d
  refine ⟨⟨z, l, ys, r, o, es, ep, e1, e2, e3, e4, e6⟩, ⟨o, e1⟩, fun h1 h2 q k => ?_⟩
  obtain ⟨z, l, ys, r, o, es, ep, f1, f⟩ := q
  exact ⟨z, l, ys, r, o, es, ep, k o f1, f⟩
theorem NdAt.get (ok : HOk P w H h) (N : NdAt P w H a xs) : (a == sysModules) = false ∧ xs.length ≤ sizeLine ∧ ∃ ys, Paired NRel xs ys ∧ h.DictOfH (nestedKind P w) a ys := by
  obtain ⟨⟨z, l, ys, r, o, es, ep, e1, e2, e3, e4, e6⟩, _, _⟩ := ok a _ N.here
  refine ⟨z, l, ys, r, o, es, ep, e1, e2, e3, e4, ?_, e6⟩
  have all : ∀ {l : List NX} {m : List (NestedKey × Addr × Value)}, Paired NRel l m → (∀ x ∈ l, NkV H x.1 (.ref x.2.1) ∧ x.1.depth ≤ 8) → ∀ y ∈ m, (nestedKind P w).is h y.1 y.2.1 := by
    intro l m q
    induction q with
    | nil => intro _ y hy; exact nomatch hy
    | @cons p q ps qs hq t ih =>
      intro hk y hy
      rcases List.mem_cons.mp hy with e | hy
      · subst e
        obtain ⟨k1, k2⟩ := hk p List.mem_cons_self
        rw [← hq.1, ← hq.2.1]
        exact ⟨nk_is ok p.1 _ _ k1 rfl, k2⟩
      · exact ih (fun x hx => hk x (List.mem_cons_of_mem _ hx)) y hy
  exact all r N.keys
theorem NRel.val {ys : List (NestedKey × Addr × Value)} (r : Paired NRel xs ys) (k : NestedKey) : RelO (nval xs k) ((atKey ys k).map (·.2)) := by
  induction r with
  | nil => exact True.intro
  | @cons p q ps qs hq t ih =>
    obtain ⟨h1, _, h3⟩ := hq
    by_cases e : p.1 = k
    · have e' : q.1 = k := h1.symm.trans e
      have b : atKey (q :: qs) k = some q.2 := by simp [atKey, List.find?_cons, e']
      have c : nval (p :: ps) k = some p.2.2 := by simp [nval, List.find?_cons, e]
      rw [c, b]; exact h3
    · have e' : ¬ q.1 = k := fun z => e (h1.trans z)
      have b : atKey (q :: qs) k = atKey qs k := by simp [atKey, List.find?_cons, e']
      have c : nval (p :: ps) k = nval ps k := by simp [nval, List.find?_cons, e]
      rw [c, b]; exact ih
theorem NRel.put {ys : List (NestedKey × Addr × Value)} (r : Paired NRel xs ys) (k : NestedKey) (b : Addr) {v : V} {u : Value} (rv : RelV v u) : Paired NRel (nput xs k b v) (storedH ys k b u) := by
  have e : (nval xs k).isSome = (atKey ys k).isSome := by rw [(NRel.val r k).isSome_eq, Option.isSome_map]
  unfold nput storedH
  rw [e]
  by_cases q : (atKey ys k).isSome = true
  · rw [if_pos q, if_pos q]
    clear e q
    induction r with
    | nil => exact .nil
    | @cons p q ps qs hq t ih =>
      rw [List.map_cons, List.map_cons]
      refine .cons ?_ ih
      obtain ⟨h1, h2, h3⟩ := hq
      unfold putAt
      by_cases e : p.1 = k
      · rw [if_pos e, if_pos (h1.symm.trans e)]; exact ⟨h1, h2, rv⟩
      · rw [if_neg e, if_neg (fun z => e (h1.trans z))]; exact ⟨h1, h2, h3⟩
  · rw [if_neg q, if_neg q]
    exact Paired.snoc r ⟨rfl, rfl, rv⟩
theorem nput_len (xs : List NX) (k : NestedKey) (b : Addr) (v : V) : (nput xs k b v).length ≤ xs.length + 1 := by
  unfold nput; split <;> simp
theorem nput_keys {k : NestedKey} {b : Addr} {v : V} (hk : ∀ x ∈ xs, NkV H x.1 (.ref x.2.1) ∧ x.1.depth ≤ 8) (hb : NkV H k (.ref b)) (d : k.depth ≤ 8) : ∀ x ∈ nput xs k b v, NkV H x.1 (.ref x.2.1) ∧ x.1.depth ≤ 8 := by
  intro x hx
  unfold nput at hx
  split at hx
  · obtain ⟨y, hy, e⟩ := List.mem_map.mp hx
    subst e
    split
    · exact hk y hy
    · exact hk y hy
  · rcases List.mem_append.mp hx with hx | hx
    · exact hk x hx
    · cases List.mem_singleton.mp hx; exact ⟨hb, d⟩
theorem NdAt.keep (N : NdAt P w H a xs) (ha : H' a = H a) (ht : ∀ b ys, H b = some (.tup ys) → H' b = some (.tup ys)) : NdAt P w H' a xs :=
  ⟨ha.trans N.here, fun x hx => ⟨NkV.keeps ht _ _ (N.keys x hx).1, (N.keys x hx).2⟩⟩
end

theorem nk_key {P : Program} {w : World} {H : Hp} {h : Heap} {k : NestedKey} {p : Addr} (ok : HOk P w H h) (kp : NkV H k (.ref p)) (d : k.depth ≤ 8) : (nestedKind P w).is h k p := ⟨nk_is ok k _ _ kp rfl, d⟩
section
variable {X : Cx}
/-- y in d -/
def uNIn (P : Program) (w : World) (neg : Bool) : R2 := fun y x H Q => ∃ a p k xs, x = .ref a ∧ y = .ref p ∧ NdAt P w H a xs ∧ NkV H k (.ref p) ∧ k.depth ≤ 8 ∧ Q (.bl (neg != (nval xs k).isSome)) H
theorem NdAt.isSome {P : Program} {w : World} {k : NestedKey} {xs : List NX} {ys : List (NestedKey × Addr × Value)} (r : Paired NRel xs ys) : (atKey ys k).isSome = (nval xs k).isSome := by
  rw [(NRel.val r k).isSome_eq, Option.isSome_map]
theorem ou_nin (hu : X.A.units + 64 < cLine) : OpR X (compareOp .In) (uNIn X.prog X.w false) := by
  intro pins s σ H y x v u Q I ry rx h
  obtain ⟨a, p, k, xs, rfl, rfl, N, kp, d, q⟩ := h
  cases rx; cases ry
  obtain ⟨z, l, ys, r, D⟩ := N.get I.hok
  refine wpAny_in_heap (show X.A.units + 1 + 8 < cLine by omega) (nk_key I.hok kp d) z D ?_
  rw [NdAt.isSome (P := X.prog) (w := X.w) r]
  exact ⟨.bl _, H, I.tok _, rfl, by simpa using q⟩
theorem ou_nnotin (hu : X.A.units + 64 < cLine) : OpR X (compareOp .NotIn) (uNIn X.prog X.w true) := by
  intro pins s σ H y x v u Q I ry rx h
  obtain ⟨a, p, k, xs, rfl, rfl, N, kp, d, q⟩ := h
  cases rx; cases ry
  obtain ⟨z, l, ys, r, D⟩ := N.get I.hok
  refine wpAny_notIn_heap (show X.A.units + 1 + 8 < cLine by omega) (nk_key I.hok kp d) z D ?_
  rw [NdAt.isSome (P := X.prog) (w := X.w) r]
  exact ⟨.bl _, H, I.tok _, rfl, by simpa using q⟩
/-- d[y] -/
def uNIx (P : Program) (w : World) : R2 := fun x y H Q => ∃ a p k xs v, x = .ref a ∧ y = .ref p ∧ NdAt P w H a xs ∧ NkV H k (.ref p) ∧ k.depth ≤ 8 ∧ nval xs k = some v ∧ Q v H
theorem ix_nd (hu : X.A.units + 64 < cLine) : IxR X (uNIx X.prog X.w) := by
  intro value slice pins s σ H x y v u Q I rx ry h hs
  obtain ⟨a, p, k, xs, z, rfl, rfl, N, kp, d, e, q⟩ := h
  cases rx; cases ry
  obtain ⟨_, l, ys, r, D⟩ := N.get I.hok
  obtain ⟨w', hw, rw'⟩ := RelO.some_of (v := z) (o := (atKey ys k).map (·.2)) (by rw [← e]; exact NRel.val r k)
  obtain ⟨q2, hq2, e2⟩ := Option.map_eq_some_iff.mp hw
  refine tail_any D.typeIs PySem.F.slot_dict_getitem.lookup (wpAny_getItem_heap (show X.A.units + 1 + 8 < cLine by omega) (nk_key I.hok kp d) D hq2 ?_) hs
  rw [e2]
  exact ⟨z, H, I.tok _, rw', q⟩
/-- a dict's item by int, text, or a flat tuple -/
def uDIx : R2 := fun x y H Q => ∃ a v, x = .ref a ∧ DGet H a y (some v) ∧ Q v H
theorem ix_d (hu : X.A.units + 64 < cLine) : IxR X uDIx := by
  intro value slice pins s σ H x y v u Q I rx ry h hs
  obtain ⟨a, z, rfl, g, q⟩ := h
  cases rx
  exact tail_any (dict_typeIs I g) PySem.F.slot_dict_getitem.lookup (d_getItem (by omega) I g ry fun w' s' I' rw' => ⟨z, H, I', rw', q⟩) hs
/-- y in d, keys ints, texts, flat tuples -/
def uDIn (neg : Bool) : R2 := fun y x H Q => ∃ a o, x = .ref a ∧ DGet H a y o ∧ Q (.bl (neg != o.isSome)) H
theorem ou_din (hu : X.A.units + 64 < cLine) : OpR X (compareOp .In) (uDIn false) := by
  intro pins s σ H y x v u Q I ry rx h
  obtain ⟨a, o, rfl, g, q⟩ := h
  cases rx
  exact d_in (by omega) I g ry fun s' I' => ⟨.bl _, H, I', rfl, by simpa using q⟩
theorem ou_dnotin (hu : X.A.units + 64 < cLine) : OpR X (compareOp .NotIn) (uDIn true) := by
  intro pins s σ H y x v u Q I ry rx h
  obtain ⟨a, o, rfl, g, q⟩ := h
  cases rx
  exact d_notIn (by omega) I g ry fun s' I' => ⟨.bl _, H, I', rfl, by simpa using q⟩
/-- d[y] = v -/
def uNSet (P : Program) (w : World) : V → V → V → Hp → (Hp → Prop) → Prop := fun o i v H Q => ∃ a p k xs, o = .ref a ∧ i = .ref p ∧ NdAt P w H a xs ∧ NkV H k (.ref p) ∧ k.depth ≤ 8 ∧ xs.length < sizeLine ∧ Q (upd H a (NdO P w a (nput xs k p v)))
theorem set_nd (hu : X.A.units + 64 < cLine) : PSet X (uNSet X.prog X.w) := by
  intro pins s σ H o i v ov iv u Q I ro ri rv h
  obtain ⟨a, p, k, xs, rfl, rfl, N, kp, d, few, q⟩ := h
  cases ro; cases ri
  obtain ⟨z, l, ys, r, D⟩ := N.get I.hok
  have hl : (nput xs k p v).length ≤ sizeLine := Nat.le_trans (nput_len xs k p v) few
  refine wpAny_setItem_heap (hsz := by rw [← Paired.length r]; exact l) (show X.A.units + 1 + 8 < cLine by omega) (nk_key I.hok kp d) D fun h' D' hs => ?_
  have he : ∃ q, h'.get? a = some q := let ⟨q, _, _, hq, _⟩ := D'; ⟨q, hq⟩
  exact ⟨_, d_write I (by rw [N.here]; exact True.intro) hs he (ndO_ok z hl (NRel.put r k p rv) D'), q⟩
def uDSet : V → V → V → Hp → (Hp → Prop) → Prop := fun o i v H Q => ∃ a H', o = .ref a ∧ DPut H a i v H' ∧ Q H'
theorem set_d (hu : X.A.units + 64 < cLine) : PSet X uDSet := by
  intro pins s σ H o i v ov iv u Q I ro ri rv h
  obtain ⟨a, H', rfl, g, q⟩ := h
  cases ro
  exact d_setItem (by omega) I g ri rv fun s' I' => ⟨H', I', q⟩
theorem PSet.or {X : Cx} {t t' : TSet} (h : PSet X t) (h' : PSet X t') : PSet X (fun o i v H Q => t o i v H Q ∨ t' o i v H Q) := by
  intro pins s σ H o i v ov iv u Q I ro ri rv q
  rcases q with q | q
  · exact h pins s σ H o i v ov iv u Q I ro ri rv q
  · exact h' pins s σ H o i v ov iv u Q I ro ri rv q
/-- {} with nested keys to come -/
theorem nd_empty {P : Program} {w : World} {H : Hp} (h : Heap) (hb : sysModules < h.objs.size) : ObjOk P w H (h.push { cls := .type "dict", data := .dict #[] }) h.objs.size (NdO P w h.objs.size []) :=
  ndO_ok (beq_eq_false_iff_ne.mpr (Ne.symm (Nat.ne_of_lt hb))) (Nat.zero_le _) .nil (Heap.DictOfH.new h)
def uDNew (P : Program) (w : World) : TE := fun _ H Q => (∃ kind : Bool, ∀ p, H p = none → Q (.ref p) (upd H p (if kind = true then .dK [] else NdO P w p []))) ∨ (∀ p, H p = none → Q (.ref p) (upd H p (.dT [])))
theorem pe_dnew {pos : Pos} : PE X (.Dict [] [] pos) (uDNew X.prog X.w) := ⟨fun pins s σ H Q I h => by
  rcases h with ⟨kind, q⟩ | q
  · cases kind with
    | true => exact wpAny_Dict_empty ⟨.ref s.heap.objs.size, _, I.laid (a := s.heap.objs.size) (o := .dK []) (t' := s.toks) (fun _ _ q => Heap.get?_push_of_some _ q) (Nat.le_refl _) (dk_empty s.heap I.big), rfl, q _ (I.hok.fresh (Nat.le_refl _))⟩
    | false => exact wpAny_Dict_empty ⟨.ref s.heap.objs.size, _, I.laid (a := s.heap.objs.size) (o := NdO X.prog X.w s.heap.objs.size []) (t' := s.toks) (fun _ _ q => Heap.get?_push_of_some _ q) (Nat.le_refl _) (nd_empty s.heap I.big), rfl, q _ (I.hok.fresh (Nat.le_refl _))⟩
  · exact pe_dnewT.run pins s σ H Q I q⟩
/-- {k: v} with one nested key -/
def uDisp1 (P : Program) (w : World) (tk tv : TE) : TE := fun σ H Q => ∀ p, H p = none → tk σ (upd H p (NdO P w p [])) fun x H1 => tv σ H1 fun y H2 =>
  ∃ k b, x = .ref b ∧ H2 p = some (NdO P w p []) ∧ NkV H2 k (.ref b) ∧ k.depth ≤ 8 ∧ Q (.ref p) (upd H2 p (NdO P w p [(k, b, y)]))
theorem pe_disp1 {ke ve : Expr} {tk tv : TE} {pos : Pos} (hu : X.A.units + 64 < cLine) (hk : PE X ke tk) (hv : PE X ve tv)
    (shape : (evalEachOpt [some ke] X.env).zip ((evalEach [ve] X.env).map fun v => do let x ← v; standAt pos; pure x) = [(eval ke X.env, (do let x ← eval ve X.env; standAt pos; pure x))].map fun p => (some p.1, p.2) := by rfl) :
    PE X (.Dict [some ke] [ve] pos) (uDisp1 X.prog X.w tk tv) := by
  refine ⟨fun pins s σ H Q I h => ?_⟩
  have hn := I.hok.fresh (Nat.le_refl s.heap.objs.size)
  have I1 := I.laid (a := s.heap.objs.size) (o := NdO X.prog X.w s.heap.objs.size []) (h' := s.heap.push { cls := .type "dict", data := .dict #[] }) (t' := s.toks) (fun _ _ q => Heap.get?_push_of_some _ q) (Nat.le_refl _) (nd_empty s.heap I.big)
  have h1 : PPs X pos [some ke] [ve] [(tk, tv)] := pps_cons hk hv pps_nil
  have trees : pairTrees [some ke] [ve] X.env pos = [(eval ke X.env, (do let x ← eval ve X.env; standAt pos; pure x))] := by rfl
  have run := h1.run pins _ σ _ (fun ps H2 => match ps with
    | [(x, y)] => ∃ k b, x = .ref b ∧ H2 s.heap.objs.size = some (NdO X.prog X.w s.heap.objs.size []) ∧ NkV H2 k (.ref b) ∧ k.depth ≤ 8 ∧ Q (.ref s.heap.objs.size) (upd H2 s.heap.objs.size (NdO X.prog X.w s.heap.objs.size [(k, b, y)]))
    | _ => False) I1 (h _ hn)
  rw [trees] at run
  rw [arm_eval_Dict, shape, dictDisplay_pairs _ (by simp) (by simp)]
  refine wpAny_bind (wpAny_standAt (wpAny_bind (wpAny_subDictH (knd := nestedKind X.prog X.w) (show X.A.units + 8 < cLine by omega) (by simp) (thn run fun vs s2 hh => ?_))))
  obtain ⟨ps, H2, I2, rel, q⟩ := hh
  split at q
  · rename_i x y
    obtain ⟨k, b, rfl, e, kb, d, q⟩ := q
    cases rel with
    | @cons p1 q1 ps qs rr t =>
    cases t
    obtain ⟨u1, u2⟩ := q1
    obtain ⟨r1, r2⟩ := rr
    cases (show u1 = Value.ref b from r1)
    obtain ⟨z, l, ys, rr, D⟩ := NdAt.get I2.hok (xs := []) ⟨e, fun _ hx => nomatch hx⟩
    cases rr
    refine ⟨[(k, b, u2)], ⟨rfl, rfl, nk_key I2.hok kb d, True.intro⟩, D, fun h' tk' D' hs => wpAny_pure ⟨.ref s.heap.objs.size, _, ?_, rfl, q⟩⟩
    have he : ∃ q, h'.get? s.heap.objs.size = some q := let ⟨q, _, _, hq, _⟩ := D'; ⟨q, hq⟩
    exact d_write I2 (by rw [e]; exact True.intro) hs he (ndO_ok (ys := [(k, b, u2)]) z (by rw [sizeLine_eq]; exact (by decide : (1 : Nat) ≤ 16777216)) (.cons ⟨rfl, rfl, r2⟩ .nil) D')
  · exact q.elim
end
/-! sorted(t), t a tuple of ints -/
section
open PyProof.Rows
variable {P : Program} {w : World} {A : Around} {E : Value → Shared → Prop} {s : Shared}
theorem collect_tup {l : Addr} {vs : List Value} {Q : List Value → Shared → Prop} (hl : s.heap.IsTuple l vs.toArray) (hsz : vs.length ≤ sizeLine)
    (h : Q vs { s with heap := (s.heap.push (seqObj "list" #[] 0)).update s.heap.objs.size (Obj.mapSeq (· ++ vs.toArray)) }) :
    wpAny (model P w) A (collect (.ref l)) Q E s := by
  obtain ⟨o, ho, hc, n, hd⟩ := id hl
  unfold collect
  refine wpAny_bind (wpAny_runValue (codeAny_builtin entry_proto_collect' ?_))
  show wpAny _ _ (do again (.builtin "list.__iadd__" ⟨[← newList [], .ref l], []⟩)) _ _ s
  refine wpAny_bind (wpAny_newList (wpAny_pure ⟨Code.quiet_builtin _ (by decide +kernel), codeAny_builtin entry_list_iadd' ?_⟩))
  show wpAny _ _ (Builtin.List.listExtendWith (.ref s.heap.objs.size) (.ref l) (.ref s.heap.objs.size)) _ _ { s with heap := s.heap.push (seqObj "list" #[] 0) }
  unfold Builtin.List.listExtendWith
  have ho' : (s.heap.push (seqObj "list" #[] 0)).get? l = some o := Heap.get?_push_of_some _ ho
  refine wpAny_bind (wpAny_typeOf (T := "tuple") ⟨o, ho', hc⟩ ?_)
  have ht : (Value.type "tuple" == Value.type "tuple") = true := by rfl
  rw [if_pos (by rw [ht]; simp)]
  refine wpAny_bind (listItems_at ho' hd ?_)
  refine wpAny_bind (listItems_at (xs := #[]) (n := 0) (Heap.get?_push_size _ rfl) rfl ?_)
  rw [if_neg (by simp)]
  refine wpAny_bind (listUpdate_at (xs := #[]) (n := 0) (Heap.get?_push_size _ rfl) rfl ?_ (Nat.zero_le _) (by show (#[] ++ vs.toArray).size ≤ sizeLine + 1; simp only [Array.size_append, List.size_toArray, List.length_nil]; omega))
  refine wpAny_pure ?_
  show wpAny (model P w) A (do
      let o ← load s.heap.objs.size
      match o.data with
      | .seq xs _ => pure xs.toList
      | _ => unsupported "internal:collect") Q E { s with heap := (s.heap.push (seqObj "list" #[] 0)).update s.heap.objs.size (Obj.mapSeq (· ++ vs.toArray)) }
  refine wpAny_bind (wpAny_load (get?_update_seq (Heap.get?_push_size _ rfl) _) ?_)
  show wpAny _ _ (pure ((#[] : Array Value) ++ vs.toArray).toList) Q E _
  rw [show ((#[] : Array Value) ++ vs.toArray).toList = vs by simp]
  exact wpAny_pure h
theorem sorted_of_tup {l : Addr} {vs : List Value} {ns : List Int} {Q : Value → Shared → Prop} (hl : s.heap.IsTuple l vs.toArray) (hsz : vs.length ≤ sizeLine) (areI : IntsAre vs ns)
    (fin : ∀ (h' : Heap) (p : Addr) (out : Array Value) (c : Nat) (ns' : List Int), (∀ b o, s.heap.get? b = some o → h'.get? b = some o) → s.heap.objs.size ≤ p → h'.get? p = some (seqObj "list" out c) → IntsAre out.toList ns' → ns'.Perm ns → ns'.Pairwise (· ≤ ·) → Q (.ref p) { s with heap := h' }) :
    wpAny (model P w) A (call (.builtin "sorted") [.ref l]) Q E s := by
  refine Calls.call_function_entry kind_sorted plain_sorted entry_sorted (args_sorted1 _) ?_
  unfold Builtin.«sorted»
  refine wpAny_bind (m := checkCount "sorted" 1 1 _) (wpAny_pure ?_)
  refine wpAny_bind (collect_tup hl hsz ?_)
  have k1 : ∀ b o, s.heap.get? b = some o → ((s.heap.push (seqObj "list" #[] 0)).update s.heap.objs.size (Obj.mapSeq (· ++ vs.toArray))).get? b = some o := fun b o q => by
    rw [Heap.get?_update_ne _ _ _ _ (Nat.ne_of_lt (Heap.lt_size q))]
    exact Heap.get?_push_of_some _ q
  have big : s.heap.objs.size ≤ ((s.heap.push (seqObj "list" #[] 0)).update s.heap.objs.size (Obj.mapSeq (· ++ vs.toArray))).objs.size := by
    rw [Heap.size_update, size_push']; omega
  generalize (s.heap.push (seqObj "list" #[] 0)).update s.heap.objs.size (Obj.mapSeq (· ++ vs.toArray)) = h1 at k1 big ⊢
  refine wpAny_bind (wpAny_newList ?_ hsz)
  have at1 : (h1.push (seqObj "list" vs.toArray 0)).get? h1.objs.size = some (seqObj "list" vs.toArray 0) := Heap.get?_push_size _ rfl
  refine wpAny_bind (wpAny_holding (wpAny_call_entry slot_list_sort ⟨_, at1, rfl⟩ entry_list_sort
    (SrtO.list_sort_ord SrtO.swo_int at1 hsz (fun h2 => SrtO.ints_sortable areI h2) fun out z1 z2 => ⟨_, rfl, ?_⟩) (args_list_sort _)))
  obtain ⟨j1, j2, j3⟩ := SrtO.ints_out areI z1 z2
  obtain ⟨c, hc⟩ := sortedHeap_at (vs := vs) (out := out.toArray) at1
  refine wpAny_pure ⟨_, rfl, fin _ h1.objs.size out.toArray c (out.map SrtO.iv) (fun b u e => ?_) big hc (by simpa using j1) j2 j3⟩
  have q := k1 b u e
  have lt := Heap.lt_size q
  rw [sortedHeap_old (Nat.ne_of_lt lt) (by rw [size_push']; exact Nat.lt_succ_of_lt lt)]
  exact Heap.get?_push_of_some _ q
end
section
variable {X : Cx}
def rSortTup (K : PySem.W.Frag) : List V → Hp → VK → Prop := fun xs H Q => ∃ (l : Addr) (ns : List Int), xs = [.ref l] ∧ SqT K H l (ns.map V.int) ∧
  ∀ (ns' : List Int) (p : Addr), ns'.Perm ns → ns'.Pairwise (· ≤ ·) → H p = none → Q (.ref p) (upd H p (.lst (ns'.map V.int)))
theorem cu_sortTup : CallR X (.builtin "sorted") (rSortTup X.K) := by
  intro pins s σ H vs us Q I r h
  obtain ⟨l, ns, rfl, hq, q⟩ := h
  rw [Vals.ref1 r]
  obtain ⟨its, rv, p, hz⟩ := I.tuple hq
  have areI : IntsAre its ns := rv.ints
  refine sorted_of_tup (show s.heap.IsTuple l its.toArray from p) (by rw [← rv.length]; exact hz) areI fun h' p' out c ns' k big got a1 a2 a3 => ?_
  have line : (ns'.map V.int).length ≤ sizeLine := by rw [List.length_map, a2.length_eq]; rw [List.length_map] at hz; exact hz
  have new : H p' = none := I.hok.fresh big
  exact ⟨.ref p', upd H p' (.lst (ns'.map V.int)), I.laid (t' := s.toks) k big ⟨line, out.toList, c, vals_of_ints a1, got⟩, rfl, q ns' p' a2 a3 new⟩
/-- sorted(d), d a dict whose keys are ints, of any size -/
def uSortDict : List V → Hp → VK → Prop := fun xs H Q => ∃ (a : Addr) (kvs : List (L2.Key × V)) (ks : List Int), xs = [.ref a] ∧ H a = some (.dK kvs) ∧ kvs.map (·.1) = ks.map Sum.inl ∧
  ∀ (ys : List Int) (p : Addr), ys.Perm ks → ys.Pairwise (· ≤ ·) → H p = none → Q (.ref p) (upd H p (.lst (ys.map V.int)))
theorem ints_each' : ∀ {us : List Value} {ks : List Int}, us.length = ks.length → (∀ (j : Nat) (v : Value), us[j]? = some v → ∃ (x : Int) (t : _), ks[j]? = some x ∧ v = .int x t) → IntsAre us ks
  | [], [], _, _ => .nil
  | u :: us, k :: ks, hl, h => by
    obtain ⟨x, t, e1, e2⟩ := h 0 u rfl
    have e1' : k = x := Option.some.inj e1
    subst e1'
    subst e2
    refine .cons _ _ (ints_each' (by simpa using hl) fun j v e => ?_)
    obtain ⟨x, t, a, b⟩ := h (j + 1) v (by simpa using e)
    exact ⟨x, t, by simpa using a, b⟩
  | [], _ :: _, hl, _ => by simp at hl
  | _ :: _, [], hl, _ => by simp at hl
theorem cu_sortDict (hcalm : X.calm = true) : CallR X (.builtin "sorted") uSortDict := by
  intro pins s σ H xs us Q I r q
  obtain ⟨a, kvs, ks, rfl, hd, hks, q⟩ := q
  rw [Vals.ref1 r]
  obtain ⟨z, lo, vs, rel, dd⟩ := dk_rd I.hok (.inl hd)
  obtain ⟨ep, hat⟩ := dd.dictAt
  have hkeys : vs.map (·.1) = ks.map Sum.inl := rel.keys.symm.trans hks
  have hl : vs.length = ks.length := by
    have e := congrArg List.length hkeys
    rw [List.length_map, List.length_map] at e
    exact e
  have h16 : vs.length ≤ sizeLine := by rw [← rel.length]; exact z
  refine Calls.call_function_entry kind_sorted plain_sorted entry_sorted (args_sorted1 _) ?_
  unfold Builtin.«sorted»
  refine wpAny_bind (m := checkCount "sorted" 1 1 _) (wpAny_pure ?_)
  refine wpAny_bind (PySem.W.kdu_collect (A := X.A.in1) (PySem.W.kdl_dict (knd := mixKind X.prog X.w) (kvs := vs) (ep := ep) lo) (I.ok.hd hcalm) hat h16 fun h' tk acc hk hacc => ?_)
  have hal : acc.toList.length = ks.length := by rw [Array.length_toList, hacc.1, hl]
  have areI : IntsAre acc.toList ks := ints_each' hal fun j v e => by
    obtain ⟨k, x, e1, e2⟩ := hacc.2 j v (by rw [← Array.getElem?_toList]; exact e)
    have e3 : (vs.map (·.1))[j]? = some k := by rw [List.getElem?_map, e1]; rfl
    rw [hkeys, List.getElem?_map] at e3
    cases e4 : ks[j]? with
    | none => rw [e4] at e3; cases e3
    | some y =>
      rw [e4] at e3
      have e5 : Sum.inl y = k := Option.some.inj e3
      subst e5
      rcases keyIs_shape (show keyIs (Sum.inl y) v = true from e2) with ⟨i, t, ek, ev⟩ | ⟨z, t, ek, ev⟩
      · cases ek
        exact ⟨y, t, rfl, ev⟩
      · cases ek
  have I1 : Inv X pins σ H { s with heap := h', toks := tk } := I.kept hk
  have hal2 : acc.toList.length ≤ sizeLine := by rw [hal, ← hl]; exact h16
  refine wpAny_bind (wpAny_newList ?_ hal2)
  have at1 : (h'.push (seqObj "list" acc.toList.toArray 0)).get? h'.objs.size = some (seqObj "list" acc.toList.toArray 0) := Heap.get?_push_size _ rfl
  show wpAny _ _ _ _ _ { s with heap := h'.push (seqObj "list" acc.toList.toArray 0), toks := tk }
  refine wpAny_bind (wpAny_holding (wpAny_call_entry slot_list_sort ⟨_, at1, rfl⟩ entry_list_sort
    (SrtO.list_sort_ord SrtO.swo_int (s := { s with heap := h'.push (seqObj "list" acc.toList.toArray 0), toks := tk }) at1 hal2 (fun h2 => SrtO.ints_sortable areI h2) fun out z1 z2 => ⟨_, rfl, ?_⟩) (args_list_sort _)))
  obtain ⟨j1, j2, j3⟩ := SrtO.ints_out areI z1 z2
  obtain ⟨c, hc⟩ := sortedHeap_at (vs := acc.toList) (out := out.toArray) at1
  have hlen : ((out.map SrtO.iv).map V.int).length ≤ sizeLine := by
    rw [List.length_map, j2.length_eq, ← hl]; exact h16
  refine wpAny_pure ⟨_, rfl, .ref h'.objs.size, upd H h'.objs.size (.lst ((out.map SrtO.iv).map V.int)), I1.laid (t' := tk) (fun b u e => ?_) (Nat.le_refl _)
    (show ObjOk X.prog X.w _ _ _ (.lst ((out.map SrtO.iv).map V.int)) from ⟨hlen, out, c, vals_of_ints j1, hc⟩), rfl, q _ _ j2 j3 (I1.hok.fresh (Nat.le_refl _))⟩
  have hb : b < h'.objs.size := Heap.lt_size e
  rw [sortedHeap_old (Nat.ne_of_lt hb) (by rw [size_push']; exact Nat.lt_succ_of_lt hb)]
  exact Heap.get?_push_of_some _ e
end
end Hm

/-! F2: rules by syntax alone (each a choice by values), and their readings. -/
namespace Hm
open PySem PySem.Spec PyProof.Rows L2

/-! ### choices by values -/
def bAdd (K : PySem.W.Frag) : R2 := fun x y H Q => rI0 (fun i j => .int (i + j)) x y H Q ∨ rCat x y H Q ∨
  (∃ i j, x = .str i ∧ y = .str j ∧ i.length + j.length ≤ sizeLine ∧ Q (.str (i ++ j)) H) ∨ rCatA K x y H Q
def bSub : R2 := rI0 fun i j => .int (i - j)
def bMul : R2 := fun x y H Q => rI CMul (fun i j => .int (i * j)) x y H Q ∨ rI CMulW (fun i j => .int (i * j)) x y H Q ∨ rRep x y H Q
def bMod : R2 := rI (fun _ j => 0 < j) fun i j => .int (i % j)
def bDiv : R2 := fun x y H Q => rI CDiv (fun i j => .int (i / j)) x y H Q ∨ rI CDivW (fun i j => .int (i / j)) x y H Q
def bPow : R2 := rI CPow fun i j => .int (i ^ j.toNat)
def bAnd : R2 := rI0 fun i j => .int (Builtin.bitAnd i j)
def bXor : R2 := rI0 fun i j => .int (Builtin.bitXor i j)
def cEq (K : PySem.W.Frag) : R2 := fun x y H Q => rEq x y H Q ∨ rEqD K x y H Q
def cNe (K : PySem.W.Frag) : R2 := fun x y H Q => rNe x y H Q ∨ rNeD K x y H Q
def cLt (K : PySem.W.Frag) : R2 := fun x y H Q => rI0 (fun i j => .bl (decide (i < j))) x y H Q ∨
  (∃ i j, x = .str i ∧ y = .str j ∧ Q (.bl (decide (i.cps.toList < j.cps.toList))) H) ∨ rLtT K x y H Q
def cLe : R2 := rI0 fun i j => .bl (decide (i ≤ j))
def cGt : R2 := rI0 fun i j => .bl (decide (j < i))
def cGe : R2 := rI0 fun i j => .bl (decide (j ≤ i))
def cIs : R2 := fun x y H Q => (y = .non ∧ Q (.bl (decide (x = .non))) H) ∨ rIsB x y H Q
def cIsNot : R2 := fun x y H Q => (y = .non ∧ Q (.bl (!decide (x = .non))) H) ∨ rNotB x y H Q
def cIn (P : Program) (w : World) (K : PySem.W.Frag) : R2 := fun x y H Q => rIn K false x y H Q ∨ rInD K x y H Q ∨ rInS x y H Q ∨ uDIn false x y H Q ∨ uNIn P w false x y H Q
def cNotIn (P : Program) (w : World) (K : PySem.W.Frag) : R2 := fun x y H Q => rIn K true x y H Q ∨ rNotInD K x y H Q ∨ rNotInS x y H Q ∨ uDIn true x y H Q ∨ uNIn P w true x y H Q
def bIx (P : Program) (w : World) (K : PySem.W.Frag) : R2 := fun x y H Q => rIxL K x y H Q ∨ rIxT K x y H Q ∨ rIxS x y H Q ∨ uDIx x y H Q ∨ uNIx P w x y H Q
def bSet (P : Program) (w : World) : TSet := fun o i v H Q => rSetL o i v H Q ∨ uDSet o i v H Q ∨ uNSet P w o i v H Q
def kLen (K : PySem.W.Frag) : List V → Hp → VK → Prop := fun xs H Q => (∃ x n, xs = [x] ∧ LenV K x H n ∧ Q (.int n) H) ∨ (∃ a kvs, xs = [V.ref a] ∧ H a = some (.dK kvs) ∧ Q (.int kvs.length) H)
def kList (K : PySem.W.Frag) : List V → Hp → VK → Prop := fun xs H Q => (∃ p ys, xs = [.ref p] ∧ (SqL K H p ys ∨ SqT K H p ys) ∧ ∀ l, H l = none → Q (.ref l) (upd H l (.lst ys))) ∨ rListD xs H Q
def kTuple (K : PySem.W.Frag) : List V → Hp → VK → Prop := fun xs H Q => ∃ p ys, xs = [.ref p] ∧ ((SqL K H p ys ∧ ∀ l, H l = none → Q (.ref l) (upd H l (.tup ys))) ∨ (SqT K H p ys ∧ Q (.ref p) H))
def kSorted (K : PySem.W.Frag) (w : World) : List V → Hp → VK → Prop := fun xs H Q => rSortedI K xs H Q ∨ uSortSet w xs H Q ∨ rSortTup K xs H Q ∨ uSortDict xs H Q
def kMax (K : PySem.W.Frag) : List V → Hp → VK → Prop := fun xs H Q => (∃ i j, xs = [.int i, .int j] ∧ Q (.int (if j > i then j else i)) H) ∨ rMax K xs H Q
def kMin (K : PySem.W.Frag) : List V → Hp → VK → Prop := fun xs H Q => (∃ i j, xs = [.int i, .int j] ∧ Q (.int (if j < i then j else i)) H) ∨ rMin K xs H Q
def kAbs : List V → Hp → VK → Prop := fun xs H Q => ∃ i, xs = [.int i] ∧ Q (.int (if i < 0 then -i else i)) H
def kInt : List V → Hp → VK → Prop := fun xs H Q => (∃ i, xs = [.int i] ∧ Q (.int i) H) ∨ ∃ k, xs = [.bl k] ∧ Q (.int (if k then 1 else 0)) H
def tTru (K : PySem.W.Frag) (ta : TE) : TT := fun σ H Q => ta σ H fun x H' => ∃ k, TruV K x H' k ∧ Q k H'
def bSl (K : PySem.W.Frag) : V → Option Int → Option Int → Hp → VK → Prop := fun x lo hi H Q => rSlL K x lo hi H Q ∨ rSlA K x lo hi H Q
/-- (a, b) = a tuple or a list of that length -/
def gSeq (K : PySem.W.Frag) (n : Nat) (t : TGs) : TG := fun v σ H Q => gTup K n t v σ H Q ∨ gUnl K n t v σ H Q
def kInsert : V → List V → Hp → VK → Prop := fun x vs H Q => ∃ (l : Addr) (xs : List V) (i : Int) (y : V), x = .ref l ∧ vs = [.int i, y] ∧ H l = some (.lst xs) ∧ xs.length < sizeLine ∧ 0 ≤ i ∧ i < 2 ^ 63 ∧
    Q .non (upd H l (.lst (xs.take i.toNat ++ [y] ++ xs.drop i.toNat)))
def kIndex (K : PySem.W.Frag) : V → List V → Hp → VK → Prop := fun x xs H Q => rIndex K x xs H Q ∨ rIndexD K x xs H Q

def rTupIndex (K : PySem.W.Frag) : V → List V → Hp → VK → Prop := fun x xs H Q => ∃ p, ∃ ys : List Str, ∃ z j, x = .ref p ∧ xs = [.str z] ∧ SqT K H p (ys.map V.str) ∧ ys[j]? = some z ∧ (∀ m, m < j → ys[m]? ≠ some z) ∧ Q (.int (j : Nat)) H

section
variable {X : Cx}
theorem hu64 {k : Nat} {A : Around} (hr : Room k A) : A.units + 64 < cLine := hr.units
theorem hu1 {k : Nat} {A : Around} (hr : Room k A) : A.units + 1 < cLine := by have := hr.un; omega
theorem hu65 {k : Nat} {A : Around} (hr : Room k A) : A.units + 65 < cLine := by have := hr.un; omega
theorem o_add : OpR X (binaryOp .Add) (bAdd X.K) := op_add.or (op_cat.or (op_add_str.or op_catA))
theorem o_sub : OpR X (binaryOp .Sub) bSub := op_sub
theorem o_mul : OpR X (binaryOp .Mult) bMul := op_mul.or (op_mulW.or op_rep)
theorem o_mod : OpR X (binaryOp .Mod) bMod := op_mod
theorem o_div : OpR X (binaryOp .FloorDiv) bDiv := op_fdiv.or op_fdivW
theorem o_pow : OpR X (binaryOp .Pow) bPow := op_pow
theorem o_and : OpR X (binaryOp .BitAnd) bAnd := op_and
theorem o_xor : OpR X (binaryOp .BitXor) bXor := op_xor
theorem o_eq (hu : X.A.units + 64 < cLine) : OpR X (compareOp .Eq) (cEq X.K) := op_eq.or (op_eqD hu)
theorem o_ne (hu : X.A.units + 64 < cLine) : OpR X (compareOp .NotEq) (cNe X.K) := op_ne.or (op_neD hu)
theorem o_lt (hu : X.A.units + 64 < cLine) : OpR X (compareOp .Lt) (cLt X.K) := op_lt.or (op_lt_str.or (op_ltT (by omega)))
theorem o_le : OpR X (compareOp .LtE) cLe := op_le
theorem o_gt : OpR X (compareOp .Gt) cGt := op_gt
theorem o_ge : OpR X (compareOp .GtE) cGe := op_ge
theorem o_is : OpR X (compareOp .Is) cIs := op_isN.or op_isBl
theorem o_isnot : OpR X (compareOp .IsNot) cIsNot := op_notN.or op_notBl
theorem o_in (hu : X.A.units + 65 < cLine) : OpR X (compareOp .In) (cIn X.prog X.w X.K) := op_in_seq.or ((op_inD hu).or (op_inS.or ((ou_din (by omega)).or (ou_nin (by omega)))))
theorem o_notin (hu : X.A.units + 65 < cLine) : OpR X (compareOp .NotIn) (cNotIn X.prog X.w X.K) := op_notIn_seq.or ((op_notInD hu).or (op_notInS.or ((ou_dnotin (by omega)).or (ou_nnotin (by omega)))))
theorem x_ix (hu : X.A.units + 64 < cLine) : IxR X (bIx X.prog X.w X.K) := ix_list.or (ix_tup.or (ix_str.or ((ix_d hu).or (ix_nd hu))))
theorem s_set (hu : X.A.units + 64 < cLine) : PSet X (bSet X.prog X.w) := PSet.or set_list (PSet.or (set_d hu) (set_nd hu))
theorem k_len : CallR X (.builtin "len") (kLen X.K) := call_len.or call_lenD
theorem k_list (hc : X.calm = true) : CallR X (.type "list") (kList X.K) := call_list_of.or (call_list_dK hc)
theorem k_tuple : CallR X (.type "tuple") (kTuple X.K) := call_tuple_of
theorem k_sorted (hc : X.calm = true) : CallR X (.builtin "sorted") (kSorted X.K X.w) := cr_sortedI.or ((cu_sortSet hc).or (cu_sortTup.or (cu_sortDict hc)))
theorem k_set (hc : X.calm = true) : CallR X (.type "set") (uSetI X.K X.w) := cu_setI hc
theorem k_max (hc : X.calm = true) : CallR X (.builtin "max") (kMax X.K) := (call_max2 hc).or (cr_max hc)
theorem k_min (hc : X.calm = true) : CallR X (.builtin "min") (kMin X.K) := (call_min2 hc).or (cr_min hc)
theorem k_abs : CallR X (.builtin "abs") kAbs := call_abs
theorem k_int : CallR X (.type "int") kInt := call_int1
theorem k_isi : CallR X (.builtin "isinstance") (rIsi X.K) := call_isi
theorem p_tru {a : Expr} {ta : TE} (ha : PE X a ta) (he : ∀ whole, isTrue a X.env whole = (do let v ← whole; standAt a.pos; holding [v] (truthy v)) := by intro _; rfl) : PT X a (tTru X.K ta) := pt_truth ha he
theorem s_sl : SlR X (bSl X.K) := sl_list.or sl_tupA
theorem g_seq {es : List Expr} {k : Nat} {t : TGs} {n : Nat} {pos : Pos} (hc : X.calm = true) (h : PGs X es t)
    (hn : (assignEach es X.env).length = n := by rfl) (hst : (assignEach es X.env).findIdx? (·.1) = none := by rfl) : PG X (.Tuple es k pos) (gSeq X.K n t) := by
  refine ⟨fun pins s σ H v u Q I r hw => ?_⟩
  rcases hw with hw | hw
  · exact (pg_tup hc h hn hst).run pins s σ H v u Q I r hw
  · exact (pg_unl hc h hn hst).run pins s σ H v u Q I r hw
/-- what a for walks, by its value -/
def kIter (K : PySem.W.Frag) (x : V) (H : Hp) (R : It → Hp → Prop) : Prop := (∃ a, x = .ref a ∧ (∃ xs, SqL K H a xs) ∧ R (Itl K a) H) ∨ (∃ a, x = .ref a ∧ (∃ xs, SqT K H a xs) ∧ R (Itt K a) H) ∨ ∃ z, x = .str z ∧ R (Its z) H
def iAny (K : PySem.W.Frag) (tl : TE) : TI := fun σ H R => tl σ H fun x H1 => kIter K x H1 R
theorem pi_any {tg l : Expr} {tl : TE} (hl : PE X l tl) : PI X tg l (iAny X.K tl) := by
  refine ⟨fun pins s σ H R I h => thn (hl.run pins s σ H _ I h) fun v s1 ⟨x, H1, I1, r1, q1⟩ => ?_⟩
  have own : ∀ {Q : Hp}, Inv X pins σ Q s1 → ∀ b ∈ [s1.heap.objs.size], FpOk X pins Q b := fun J b hb => by
    cases List.mem_singleton.mp hb
    exact J.fpOk (Nat.le_refl _) (J.hok.fresh (Nat.le_refl _))
  rcases q1 with ⟨a, rfl, ⟨xs, hq⟩, q⟩ | ⟨a, rfl, ⟨xs, hq⟩, q⟩ | ⟨z, rfl, q⟩
  · cases r1
    obtain ⟨its, rv, p, hz⟩ := I1.list hq
    exact wpAny_pyIter_list p.isList ⟨_, [s1.heap.objs.size], _, _, H1, rfl, I1.kept (t' := s1.toks) fun b o e => Heap.get?_push_of_some _ e, turn_list a _, ⟨_, Heap.get?_push_size _ rfl, rfl, rfl⟩, own I1, q⟩
  · cases r1
    obtain ⟨its, rv, p, hz⟩ := I1.tuple hq
    exact wpAny_pyIter_tuple (show s1.heap.IsTuple a its.toArray from p) ⟨_, [s1.heap.objs.size], _, _, H1, rfl, I1.kept (t' := s1.toks) fun b o e => Heap.get?_push_of_some _ e, turn_tuple a _, ⟨_, Heap.get?_push_size _ rfl, rfl, rfl⟩, own I1, q⟩
  · obtain ⟨t, rfl⟩ := r1
    cases ha : z.cps.all (· < 128)
    · exact wpAny_pyIter_wide ha (pi_one (tk := s1.toks) I1 _ (turn_str _ z t "str_iterator" (.inr rfl)) ⟨_, Heap.get?_push_size _ rfl, rfl, rfl⟩ q)
    · exact wpAny_pyIter_ascii ha (pi_one (tk := s1.toks) I1 _ (turn_str _ z t "str_ascii_iterator" (.inl rfl)) ⟨_, Heap.get?_push_size _ rfl, rfl, rfl⟩ q)
theorem mt_kindex (hu : X.A.units + 65 < cLine) : MtR X "list.index" (kIndex X.K) := mt_index.or (mt_indexD hu)
end
/-! ### defs, methods, classes of the text, by their promises -/
structure Cal (P : Program) (w : World) (K : PySem.W.Frag) (mg : Str → Option Value) (base : Heap) (CX : CXT) (k : Nat) (x : Str) (sp : Sp) : Prop where
  ex : ∃ (f : Addr) (fd : FuncData) (ps : List Str), FnOk P w K mg base CX k f fd ps sp ∧ mg x = some (.ref f) ∧ PySem.W.keepIn K (.ref f) = true ∧ Binds K fd ps []
structure Met (P : Program) (w : World) (K : PySem.W.Frag) (mg : Str → Option Value) (base : Heap) (CX : CXT) (k : Nat) (C : Addr) (m : Str) (sp : Sp) : Prop where
  ex : ∃ (f : Addr) (fd : FuncData) (ps : List Str), Cls K C ∧ Meth K C m f ∧ FnOk P w K mg base CX k f fd ps sp ∧ Binds K fd ps []
structure Mak (P : Program) (w : World) (K : PySem.W.Frag) (mg : Str → Option Value) (base : Heap) (CX : CXT) (k : Nat) (x : Str) (C : Addr) (sp : Sp) : Prop where
  ex : ∃ (f : Addr) (fd : FuncData) (ps : List Str), Mk K C f ∧ FnOk P w K mg base CX k f fd ps sp ∧ mg x = some (.ref C) ∧ Binds K fd ps []
section
variable {X : Cx} {CX : CXT} {E : XK} {k j : Nat} {C : Addr} {x m : Str} {sp : Sp} {p pos apos : Pos} {e o : Expr} {es : List Expr} {ta : TE} {t : TA}
theorem e_call (c : Cal X.prog X.w X.K X.mg X.base CX k x sp) (hr : Room j X.A) (hk : k ≤ j) (hx : Passes CX X E) (hg : Gl X x) (ha : PA X (e :: es) t)
    (hdb : (x == ("__debug__" : Str)) = false := by decide) (he : starEach (e :: es) X.env = (false, eval e X.env) :: starEach es X.env := by rfl) (hpl : (backTo pos (starEach es X.env)).any (·.1) = false := by rfl) :
    PE X (.Call (.Name x p) (e :: es) [] pos) (tCall sp [] E t) := by
  obtain ⟨f, fd, ps, F, hm, kp, b⟩ := c.ex
  exact pe_call F (hr.mono hk) hg hm kp b .nil hx ha hdb he hpl
theorem e_call0 (c : Cal X.prog X.w X.K X.mg X.base CX k x sp) (hr : Room j X.A) (hk : k ≤ j) (hx : Passes CX X E) (hg : Gl X x) (hdb : (x == ("__debug__" : Str)) = false := by decide) :
    PE X (.Call (.Name x p) [] [] pos) (tCall sp [] E tNil) := by
  obtain ⟨f, fd, ps, F, hm, kp, b⟩ := c.ex
  exact pe_call0 F (hr.mono hk) hg hm kp b .nil hx hdb
theorem e_make (c : Mak X.prog X.w X.K X.mg X.base CX k x C sp) (hr : Room j X.A) (hk : k + 1 ≤ j) (hx : Passes CX X E) (hg : Gl X x) (ha : PA X (e :: es) t)
    (hdb : (x == ("__debug__" : Str)) = false := by decide) (he : starEach (e :: es) X.env = (false, eval e X.env) :: starEach es X.env := by rfl) (hpl : (backTo pos (starEach es X.env)).any (·.1) = false := by rfl) :
    PE X (.Call (.Name x p) (e :: es) [] pos) (tMake C sp [] E t) := by
  obtain ⟨f, fd, ps, M, F, hm, b⟩ := c.ex
  exact pe_make M F (hr.mono hk) hg hm b .nil hx ha hdb he hpl
theorem e_make0 (c : Mak X.prog X.w X.K X.mg X.base CX k x C sp) (hr : Room j X.A) (hk : k + 1 ≤ j) (hx : Passes CX X E) (hg : Gl X x) (hdb : (x == ("__debug__" : Str)) = false := by decide) :
    PE X (.Call (.Name x p) [] [] pos) (tMake C sp [] E tNil) := by
  obtain ⟨f, fd, ps, M, F, hm, b⟩ := c.ex
  exact pe_make0 M F (hr.mono hk) hg hm b .nil hx hdb
theorem e_meth {pl : Sem Bool} (c : Met X.prog X.w X.K X.mg X.base CX k C m sp) (hr : Room j X.A) (hk : k ≤ j) (hx : Passes CX X E) (he : PE X o ta) (ha : PA X (e :: es) t)
    (h1 : starEach (e :: es) X.env = (false, eval e X.env) :: starEach es X.env := by rfl) (h2 : (backTo pos (starEach es X.env)).any (·.1) = false := by rfl)
    (h3 : eval (.Call (.Attribute o m apos) (e :: es) [] pos) X.env = (do let ov ← eval o X.env; standAt apos.atName; let (f, first) ← holding [ov] (getMethod ov m pl)
                                                                          callWith pos f first (backTo pos (starEach (e :: es) X.env)) (backToKw pos (keywordEach [] X.env))) := by rfl) :
    PE X (.Call (.Attribute o m apos) (e :: es) [] pos) (tMeth C m sp [] E ta t) := by
  obtain ⟨f, fd, ps, hc, hm, F, b⟩ := c.ex
  exact pe_meth (pl := pl) he hc hm F (hr.mono hk) b .nil hx ha h1 h2 h3
theorem e_meth0 {pl : Sem Bool} (c : Met X.prog X.w X.K X.mg X.base CX k C m sp) (hr : Room j X.A) (hk : k ≤ j) (hx : Passes CX X E) (he : PE X o ta)
    (h3 : eval (.Call (.Attribute o m apos) [] [] pos) X.env = (do let ov ← eval o X.env; standAt apos.atName; let (f, first) ← holding [ov] (getMethod ov m pl)
                                                                   callWith pos f first (backTo pos (starEach [] X.env)) (backToKw pos (keywordEach [] X.env))) := by rfl) :
    PE X (.Call (.Attribute o m apos) [] [] pos) (tMeth C m sp [] E ta tNil) := by
  obtain ⟨f, fd, ps, hc, hm, F, b⟩ := c.ex
  exact pe_meth0 (pl := pl) he hc hm F (hr.mono hk) b .nil hx h3
end
end Hm

/-! F3: readings, one lemma a head. -/
namespace Hm
open PySem L2

/-! ### heaps -/
/-- what stood stands, but for the cells of M -/
def Keep (M : Addr → Prop) (H H' : Hp) : Prop := ∀ a o, ¬ M a → H a = some o → H' a = some o
abbrev Nil : Addr → Prop := fun _ => False
theorem Keep.refl {M : Addr → Prop} {H : Hp} : Keep M H H := fun _ _ _ h => h
theorem Keep.trans {M : Addr → Prop} {H H1 H2 : Hp} (a : Keep M H H1) (b : Keep M H1 H2) : Keep M H H2 := fun c o n h => b c o n (a c o n h)
theorem Keep.mono {M N : Addr → Prop} {H H' : Hp} (k : Keep M H H') (s : ∀ a, M a → N a) : Keep N H H' := fun a o n h => k a o (fun z => n (s a z)) h
theorem Keep.weak {M : Addr → Prop} {H H' : Hp} (k : Keep Nil H H') : Keep M H H' := k.mono fun _ z => z.elim
theorem Keep.new {M : Addr → Prop} {H H' : Hp} {p : Addr} {o : HO} (k : Keep M H H') (hp : H' p = none) : Keep M H (upd H' p o) := fun a u n h => by
  rw [upd_ne (ne_of_none (k a u n h) hp)]; exact k a u n h
theorem Keep.alloc {M : Addr → Prop} {H : Hp} {p : Addr} {o : HO} (hp : H p = none) : Keep M H (upd H p o) := Keep.refl.new hp
theorem Keep.set {M : Addr → Prop} {H H' : Hp} {p : Addr} {o : HO} (k : Keep M H H') (hp : M p) : Keep M H (upd H' p o) := fun a u n h => by
  rw [upd_ne (fun z => n (by rw [z]; exact hp))]; exact k a u n h
/-- a cell that was new at the start may be forgotten -/
theorem Keep.hide {M : Addr → Prop} {H H' : Hp} {l : Addr} (k : Keep (fun a => M a ∨ a = l) H H') (hl : H l = none) : Keep M H H' := fun a o n h =>
  k a o (fun z => z.elim n fun e => by rw [e, hl] at h; cases h) h
theorem Keep.setN {M : Addr → Prop} {H H' : Hp} {p : Addr} {o : HO} (k : Keep M H H') (hp : H p = none) : Keep M H (upd H' p o) := fun a u n h => by
  rw [upd_ne (fun z => by rw [z, hp] at h; cases h)]; exact k a u n h
theorem Keep.get {M : Addr → Prop} {H H' : Hp} {a : Addr} {o : HO} (k : Keep M H H') (n : ¬ M a) (h : H a = some o) : H' a = some o := k a o n h
theorem is_upd {H : Hp} {p a : Addr} {o : HO} {v : Option HO} (e : upd H p o a = v) : upd H p o a = v := e
theorem upd_at {H : Hp} {p : Addr} {o o' : HO} (e : o = o') : upd H p o p = some o' := by rw [upd_same, e]
theorem get_new {H : Hp} {a p : Addr} {o u : HO} (hp : H p = none) (h : H a = some o) : upd H p u a = some o := by rw [upd_ne (ne_of_none h hp)]; exact h
theorem get_set {H : Hp} {a p : Addr} {o u : HO} (n : a ≠ p) (h : H a = some o) : upd H p u a = some o := by rw [upd_ne n]; exact h
theorem get_setK {H : Hp} {a p : Addr} {o u u0 : HO} (hp : H p = some u0) (h : H a = some o) (d : o ≠ u0) : upd H p u a = some o := get_set (ne_of h hp d) h
theorem ne_old {H : Hp} {a p : Addr} {o : HO} (hp : H p = none) (h : H a = some o) : a ≠ p := ne_of_none h hp
theorem ne_new {H : Hp} {a p : Addr} {o : HO} (hp : H p = none) (h : H a = some o) : p ≠ a := (ne_of_none h hp).symm
theorem none_of_upd {H : Hp} {a p : Addr} {o : HO} (h : upd H p o a = none) : H a = none := by
  unfold upd at h; split at h
  · cases h
  · exact h
theorem none_ne {H : Hp} {a p : Addr} {o : HO} (h : upd H p o a = none) : a ≠ p := fun z => by rw [z, upd_same] at h; cases h
theorem none_ne' {H : Hp} {a p : Addr} {o : HO} (h : upd H p o a = none) : p ≠ a := (none_ne h).symm

theorem seq_keep {K : PySem.W.Frag} {H H' : Hp} {a : Addr} {xs : List V} (k : Keep Nil H H') (h : SqL K H a xs) : SqL K H' a xs := Same.seq (fun b o e => k b o (fun z => z) e) h
theorem seq_new {K : PySem.W.Frag} {H : Hp} {a p : Addr} {o : HO} {xs : List V} (hp : H p = none) (h : SqL K H a xs) : SqL K (upd H p o) a xs := seq_keep (Keep.alloc hp) h
theorem keep_none {H H' : Hp} {p : Addr} (k : Keep Nil H H') (h : H' p = none) : H p = none := by
  cases e : H p with
  | none => rfl
  | some o => rw [k p o (fun z => z) e] at h; cases h
section
variable {P : Program} {w : World} {K : PySem.W.Frag} {σ : St} {H : Hp} {Q : VK} {D : Ends} {C : Addr} {E : XK} {sp : Sp} {f m : Str}
variable {t u tb : TS} {te ta td tv : TE} {tt : TT} {tr : TA} {g : TG} {i j : Nat} {v x y : V} {r : R2}

/-! ### constants of the text -/
theorem gint {mg : Str → Option Value} {x : Str} {i : Int} (h : ∃ t, mg x = some (.int i t)) : ∃ u, mg x = some u ∧ RelV (.int i) u := by
  obtain ⟨t, e⟩ := h
  exact ⟨_, e, t, rfl⟩
theorem gstr {mg : Str → Option Value} {x z : Str} (h : ∃ t, mg x = some (.str z t)) : ∃ u, mg x = some u ∧ RelV (.str z) u := by
  obtain ⟨t, e⟩ := h
  exact ⟨_, e, t, rfl⟩
/-! ### statements -/
theorem absQ {S : Hp → Prop} {v : V} (h : S H) (k : ∀ HT, S HT → Q v HT) : Q v H := k H h
theorem absS {S : Hp → Prop} (h : S H) (k : ∀ HT, S HT → t D σ HT) : t D σ H := k H h

theorem absT {S : Hp → Prop} {R : Bool → Hp → Prop} (h : S H) (k : ∀ HT, S HT → tt σ HT R) : tt σ H R := k H h
theorem absE {S : Hp → Prop} (h : S H) (k : ∀ HT, S HT → te σ HT Q) : te σ H Q := k H h
theorem r_seq (h : t { D with nx := u D } σ H) : tSeq t u D σ H := h
theorem r_nx {n b c : L2.St → Hp → Prop} {rt : VK} (h : n σ H) : (Ends.mk n rt b c).nx σ H := h
theorem r_rt {n b c : L2.St → Hp → Prop} {rt : VK} (h : rt v H) : (Ends.mk n rt b c).rt v H := h
theorem r_bk {n b c : L2.St → Hp → Prop} {rt : VK} (h : b σ H) : (Ends.mk n rt b c).bk σ H := h
theorem r_ct {n b c : L2.St → Hp → Prop} {rt : VK} (h : c σ H) : (Ends.mk n rt b c).ct σ H := h
theorem r_next (h : D.nx σ H) : tNext D σ H := h
theorem r_asg (h : te σ H fun x H1 => g x σ H1 D.nx) : tAsg te g D σ H := h
theorem r_gname {Q : St → Hp → Prop} (h : Q (σ.set i (some v)) H) : gName i v σ H Q := h
theorem r_drop (h : te σ H fun _ H1 => D.nx σ H1) : tDrop te D σ H := h
theorem r_ret (h : te σ H D.rt) : tRet te D σ H := h
theorem r_if (h : tt σ H fun b H1 => if b = true then t D σ H1 else u D σ H1) : tIfS tt t u D σ H := h
theorem r_brk (h : D.bk σ H) : tBreak D σ H := h
theorem r_cont (h : D.ct σ H) : tCont D σ H := h
theorem r_par {tas : TA} (h : tas σ H fun vs H1 => ∃ v w, vs = [v, w] ∧ D.nx ((σ.set i (some v)).set j (some w)) H1) : tPar i j tas D σ H := h
theorem r_par2 {v w : V} {R : V → V → Prop} (h : R v w) : ∃ v' w', [v, w] = [v', w'] ∧ R v' w' := ⟨v, w, rfl, h⟩
/-! ### tests -/
def kB (x : V) (R : Bool → Prop) : Prop := ∃ k, x = .bl k ∧ R k
theorem r_test {R : Bool → Hp → Prop} (h : te σ H fun x H' => kB x fun k => R k H') : tTest te σ H R := h
theorem r_kB {b : Bool} {R : Bool → Prop} (h : R b) : kB (.bl b) R := ⟨b, rfl, h⟩
theorem r_and {t1 t2 : TT} {R : Bool → Hp → Prop} (h : t1 σ H fun c H1 => if c = true then t2 σ H1 R else R false H1) : tAnd t1 t2 σ H R := h
theorem r_or {t1 t2 : TT} {R : Bool → Hp → Prop} (h : t1 σ H fun c H1 => if c = true then R true H1 else t2 σ H1 R) : tOr t1 t2 σ H R := h
theorem r_not {t1 : TT} {R : Bool → Hp → Prop} (h : t1 σ H fun c H1 => R (!c) H1) : tNot t1 σ H R := h
theorem r_tru {R : Bool → Hp → Prop} (h : te σ H fun x H' => ∃ k, TruV K x H' k ∧ R k H') : tTru K te σ H R := h
theorem r_tru_bl {b : Bool} {R : Bool → Prop} (h : R b) : ∃ k, TruV K (.bl b) H k ∧ R k := ⟨b, rfl, h⟩
theorem r_ite_tt {A B : Prop} (h : A) : if true = true then A else B := by rw [if_pos rfl]; exact h
theorem r_ite_ff {A B : Prop} (h : B) : if false = true then A else B := by rw [if_neg Bool.false_ne_true]; exact h
theorem r_ite {p A B : Prop} [Decidable p] (h1 : p → A) (h2 : ¬ p → B) : if decide p = true then A else B := by
  by_cases h : p
  · rw [if_pos (decide_eq_true h)]; exact h1 h
  · rw [if_neg (by simp [h])]; exact h2 h
theorem r_iteT' {p A B : Prop} [Decidable p] (c : p) (h : A) : if decide p = true then A else B := by rw [if_pos (decide_eq_true c)]; exact h
theorem r_iteF' {p A B : Prop} [Decidable p] (c : ¬ p) (h : B) : if decide p = true then A else B := by rw [if_neg (by simp [c])]; exact h
theorem r_iteNT' {p A B : Prop} [Decidable p] (c : ¬ p) (h : A) : if (!decide p) = true then A else B := by rw [if_pos (by simp [c])]; exact h
theorem r_iteNF' {p A B : Prop} [Decidable p] (c : p) (h : B) : if (!decide p) = true then A else B := by rw [if_neg (by simp [c])]; exact h
theorem r_ite_nt {A B : Prop} (h : B) : if (!true) = true then A else B := by rw [if_neg (by simp)]; exact h
theorem r_ite_nf {A B : Prop} (h : A) : if (!false) = true then A else B := by rw [if_pos (by simp)]; exact h
theorem r_iteN {p A B : Prop} [Decidable p] (h1 : ¬ p → A) (h2 : p → B) : if (!decide p) = true then A else B := by
  by_cases h : p
  · rw [if_neg (by simp [h])]; exact h2 h
  · rw [if_pos (by simp [h])]; exact h1 h
theorem r_iteB {b : Bool} {A B : Prop} (h1 : b = true → A) (h2 : b = false → B) : if b = true then A else B := by
  cases b
  · exact r_ite_ff (h2 rfl)
  · exact r_ite_tt (h1 rfl)
theorem r_iteNB {b : Bool} {A B : Prop} (h1 : b = false → A) (h2 : b = true → B) : if (!b) = true then A else B := by
  cases b
  · exact r_ite_tt (h1 rfl)
  · exact r_ite_ff (h2 rfl)
theorem r_ite_if {b : Bool} {A B : Prop} (hb : b = true) (h : A) : if b = true then A else B := by rw [if_pos hb]; exact h
theorem r_ite_else {b : Bool} {A B : Prop} (hb : b = false) (h : B) : if b = true then A else B := by rw [hb, if_neg Bool.false_ne_true]; exact h
/-! ### values -/
theorem r_var (h : σ[i]? = some (some v)) (k : Q v H) : tVar i σ H Q := ⟨v, h, k⟩
theorem r_c (k : Q v H) : tC v σ H Q := k
theorem r_op (k : ta σ H fun x H1 => te σ H1 fun y H2 => r x y H2 Q) : tOp r ta te σ H Q := k
theorem r_un {q : V → Hp → VK → Prop} (k : ta σ H fun x H1 => q x H1 Q) : tUn q ta σ H Q := k
theorem r_rU {gI : Int → V} {z : Int} (k : Q (gI z) H) : rU gI (.int z) H Q := ⟨z, rfl, k⟩
theorem r_nil {R : List V → Hp → Prop} (k : R [] H) : tNil σ H R := k
theorem r_cons {R : List V → Hp → Prop} (k : te σ H fun x H1 => tr σ H1 fun xs H2 => R (x :: xs) H2) : tCons te tr σ H R := k
theorem r_cb {q : List V → Hp → VK → Prop} (k : tr σ H fun vs H1 => q vs H1 Q) : tCB q tr σ H Q := k
theorem r_call (k : tr σ H fun vs H1 => sp vs H1 Q E) : tCall sp [] E tr σ H Q := by
  have e : (fun vs H1 => sp (vs ++ []) H1 Q E) = fun vs H1 => sp vs H1 Q E := by funext vs H1; rw [List.append_nil]
  show tr σ H fun vs H1 => sp (vs ++ []) H1 Q E
  rw [e]; exact k
def kMeth (C : Addr) (m : Str) (sp : Sp) (E : XK) (tr : TA) (σ : St) (x : V) (H : Hp) (Q : VK) : Prop := ∃ a dx fs, x = .ref a ∧ H a = some (.ins C dx fs) ∧ fs.lookup m = none ∧ tr σ H fun vs H2 => sp (x :: vs) H2 Q E
theorem r_meth (k : ta σ H fun x H1 => kMeth C m sp E tr σ x H1 Q) : tMeth C m sp [] E ta tr σ H Q := by
  have e : ∀ x, (fun vs H1 => sp (x :: (vs ++ [])) H1 Q E) = fun vs H1 => sp (x :: vs) H1 Q E := fun x => by funext vs H1; rw [List.append_nil]
  show ta σ H fun x H1 => ∃ a dx fs, x = .ref a ∧ H1 a = some (.ins C dx fs) ∧ fs.lookup m = none ∧ tr σ H1 fun vs H2 => sp (x :: (vs ++ [])) H2 Q E
  simp only [e]; exact k
theorem r_kmeth {a dx : Addr} {fs : List (Str × V)} (h : H a = some (.ins C dx fs)) (l : fs.lookup m = none) (k : tr σ H fun vs H2 => sp (.ref a :: vs) H2 Q E) : kMeth C m sp E tr σ (.ref a) H Q := ⟨a, dx, fs, rfl, h, l, k⟩
theorem r_make (k : tr σ H fun vs H1 => ∀ x dx, H1 x = none → H1 dx = none → dx ≠ x → sp (.ref x :: vs) (upd (upd H1 dx (.own x)) x (.ins C dx [])) (fun v H2 => v = .non ∧ Q (.ref x) H2) E) : tMake C sp [] E tr σ H Q := by
  have e : ∀ (x : Addr) (S : VK), (fun vs H1 => sp (.ref x :: (vs ++ [])) H1 S E) = fun vs H1 => sp (.ref x :: vs) H1 S E := fun x S => by funext vs H1; rw [List.append_nil]
  show tr σ H fun vs H1 => ∀ x dx, H1 x = none → H1 dx = none → dx ≠ x → sp (.ref x :: (vs ++ [])) (upd (upd H1 dx (.own x)) x (.ins C dx [])) (fun v H2 => v = .non ∧ Q (.ref x) H2) E
  simp only [List.append_nil]; exact k
def kFld (K : PySem.W.Frag) (f : Str) (x : V) (H : Hp) (Q : VK) : Prop := ∃ a C dx fs v, x = .ref a ∧ H a = some (.ins C dx fs) ∧ Cls K C ∧ NoAttr K C f ∧ fs.lookup f = some v ∧ Q v H
theorem r_fld (k : ta σ H fun x H1 => kFld K f x H1 Q) : tFld K ta f σ H Q := k
theorem r_kfld {a dx : Addr} {fs : List (Str × V)} (h : H a = some (.ins C dx fs)) (c : Cls K C) (n : NoAttr K C f) (l : fs.lookup f = some v) (k : Q v H) : kFld K f (.ref a) H Q := ⟨a, C, dx, fs, v, rfl, h, c, n, l, k⟩
def kSFld (K : PySem.W.Frag) (f : Str) (x y : V) (H : Hp) (R : Hp → Prop) : Prop := ∃ a C dx fs, x = .ref a ∧ H a = some (.ins C dx fs) ∧ Cls K C ∧ NoAttr K C f ∧ fs.length < 1000 ∧ R (upd H a (.ins C dx (putF f y fs)))
theorem r_sfld (k : tv σ H fun y H1 => ta σ H1 fun x H2 => kSFld K f x y H2 fun H3 => D.nx σ H3) : sFld K ta tv f D σ H := k
theorem r_ksfld {a dx : Addr} {fs : List (Str × V)} {R : Hp → Prop} (h : H a = some (.ins C dx fs)) (c : Cls K C) (n : NoAttr K C f) (l : fs.length < 1000) (k : R (upd H a (.ins C dx (putF f y fs)))) : kSFld K f (.ref a) y H R := ⟨a, C, dx, fs, rfl, h, c, n, l, k⟩
def kTup (xs : List V) (H : Hp) (Q : VK) : Prop := xs.length ≤ sizeLine ∧ ∀ p, H p = none → Q (.ref p) (upd H p (.tup xs))
def kLst (xs : List V) (H : Hp) (Q : VK) : Prop := xs.length ≤ sizeLine ∧ ∀ p, H p = none → Q (.ref p) (upd H p (.lst xs))
theorem r_tup (k : tr σ H fun xs H1 => kTup xs H1 Q) : tTup tr σ H Q := k
theorem r_lst (k : tr σ H fun xs H1 => kLst xs H1 Q) : tLst tr σ H Q := k
theorem few {n : Nat} (h : n ≤ 100) : n ≤ sizeLine := by rw [sizeLine_eq]; omega
theorem few1 {n : Nat} (h : n ≤ 100000) : n < sizeLine := by rw [sizeLine_eq]; omega
theorem few2 {n : Nat} (h : n ≤ 100000) : n ≤ sizeLine := by rw [sizeLine_eq]; omega
theorem r_ktup {xs : List V} (l : xs.length ≤ 100) (k : ∀ p, H p = none → Q (.ref p) (upd H p (.tup xs))) : kTup xs H Q := ⟨few l, k⟩
theorem r_klst {xs : List V} (l : xs.length ≤ 100) (k : ∀ p, H p = none → Q (.ref p) (upd H p (.lst xs))) : kLst xs H Q := ⟨few l, k⟩
theorem r_sl {q : V → Option Int → Option Int → Hp → VK → Prop} {tl th : TO} (k : te σ H fun x H1 => tl σ H1 fun l H2 => th σ H2 fun u H3 => q x l u H3 Q) : tSl q te tl th σ H Q := k
theorem r_nopart {R : Option Int → Hp → Prop} (k : R none H) : tNoPart σ H R := k
def kI (x : V) (R : Int → Prop) : Prop := ∃ i, x = .int i ∧ R i
theorem r_part {R : Option Int → Hp → Prop} (k : te σ H fun x H1 => kI x fun i => R (some i) H1) : tPart te σ H R := k
theorem r_kI {z : Int} {R : Int → Prop} (h : R z) : kI (.int z) R := ⟨z, rfl, h⟩
def kBM (K : PySem.W.Frag) (T : String) (q : V → List V → Hp → VK → Prop) (tr : TA) (σ : St) (x : V) (H : Hp) (Q : VK) : Prop := tyV K T x H ∧ tr σ H fun xs H2 => q x xs H2 Q
theorem r_bm {T : String} {q : V → List V → Hp → VK → Prop} (k : ta σ H fun x H1 => kBM K T q tr σ x H1 Q) : tBM K T q ta tr σ H Q := k
theorem r_bm0 {T : String} {q : V → List V → Hp → VK → Prop} (k : ta σ H fun x H1 => kBM K T q tNil σ x H1 Q) : tBM0 K T q ta σ H Q := k
theorem r_kbm_l {q : V → List V → Hp → VK → Prop} {l : Addr} {xs : List V} (h : H l = some (.lst xs)) (k : tr σ H fun xs H2 => q (.ref l) xs H2 Q) : kBM K "list" q tr σ (.ref l) H Q := ⟨.inl ⟨rfl, xs, SqL.of h⟩, k⟩
theorem r_revL {l : Addr} {xs : List V} (k : te σ H fun x H1 => x = .ref l ∧ H1 l = some (.lst xs) ∧ ∀ p, H1 p = none → Q (.ref p) (upd H1 p (.lst xs.reverse))) (mono : ∀ S S' : VK, (∀ x H, S x H → S' x H) → te σ H S → te σ H S') : tRevL K te σ H Q :=
  mono _ _ (fun x H1 h => ⟨l, xs, h.1, SqL.of h.2.1, h.2.2⟩) k
def kRev (K : PySem.W.Frag) (x : V) (H : Hp) (Q : VK) : Prop := ∃ a xs, x = .ref a ∧ SqL K H a xs ∧ ∀ p, H p = none → Q (.ref p) (upd H p (.lst xs.reverse))
theorem r_rev (k : te σ H fun x H1 => kRev K x H1 Q) : tRevL K te σ H Q := k
theorem r_krev {l : Addr} {xs : List V} (h : H l = some (.lst xs)) (k : ∀ p, H p = none → Q (.ref p) (upd H p (.lst xs.reverse))) : kRev K (.ref l) H Q := ⟨l, xs, rfl, SqL.of h, k⟩
def kNotV (x : V) (R : Bool → Prop) : Prop := kB x R
theorem r_notV (k : ta σ H fun x H1 => kB x fun b => Q (.bl (!b)) H1) : tNotV ta σ H Q := k
theorem r_andV (k : ta σ H fun x H1 => kB x fun b => if b = true then te σ H1 Q else Q (.bl false) H1) : tAndV ta te σ H Q := k
theorem r_orV (k : ta σ H fun x H1 => kB x fun b => if b = true then Q (.bl true) H1 else te σ H1 Q) : tOrV ta te σ H Q := k
theorem r_chain {r' : R2} {tc : TE} (k : ta σ H fun x H1 => te σ H1 fun y H2 => r x y H2 fun z H3 => kB z fun b => if b = true then tc σ H3 fun w' H4 => r' y w' H4 Q else Q (.bl false) H3) : tChain r r' ta te tc σ H Q := k
theorem r_gsub {tsv : TSet} {R : St → Hp → Prop} (k : ta σ H fun o H1 => te σ H1 fun i H2 => tsv o i v H2 fun H3 => R σ H3) : gSub ta te tsv v σ H R := k
/-! ### operators by values -/
variable {a b : Int} {l l' p q : Addr} {xs zs : List V}
theorem v_add (k : Q (.int (a + b)) H) : bAdd K (.int a) (.int b) H Q := .inl ⟨a, b, rfl, rfl, k⟩
theorem v_addL (h1 : H l = some (.lst xs)) (h2 : H l' = some (.lst zs)) (n : xs.length + zs.length ≤ sizeLine) (k : ∀ p, H p = none → Q (.ref p) (upd H p (.lst (xs ++ zs)))) : bAdd K (.ref l) (.ref l') H Q := .inr (.inl ⟨l, l', xs, zs, rfl, rfl, h1, h2, n, k⟩)
theorem v_addS {s z : Str} (n : s.length + z.length ≤ sizeLine) (k : Q (.str (s ++ z)) H) : bAdd K (.str s) (.str z) H Q := .inr (.inr (.inl ⟨s, z, rfl, rfl, n, k⟩))
theorem v_addT (h1 : H l = some (.tup xs)) (h2 : H l' = some (.tup zs)) (n : xs.length + zs.length ≤ sizeLine) (k : ∀ p H', H' p = some (.tup (xs ++ zs)) → Keep Nil H H' → Q (.ref p) H') : bAdd K (.ref l) (.ref l') H Q := by
  refine .inr (.inr (.inr ⟨l, l', xs, zs, rfl, rfl, SqT.of h1, SqT.of h2, n, fun e => ?_, fun _ e => ?_, fun _ _ p hp => k p _ upd_same (Keep.alloc hp)⟩))
  · subst e; exact k l' H (by simpa using h2) Keep.refl
  · subst e; exact k l H (by simpa using h1) Keep.refl
theorem v_sub (k : Q (.int (a - b)) H) : bSub (.int a) (.int b) H Q := ⟨a, b, rfl, rfl, k⟩
theorem v_mul (n : -(2 ^ 64) < a ∧ a < 2 ^ 64) (k : Q (.int (a * b)) H) : bMul (.int a) (.int b) H Q := .inl ⟨a, b, rfl, rfl, .inl n, k⟩
theorem v_mulR (n : -(2 ^ 64) < b ∧ b < 2 ^ 64) (k : Q (.int (a * b)) H) : bMul (.int a) (.int b) H Q := .inl ⟨a, b, rfl, rfl, .inr n, k⟩
theorem v_mulW (n : CMulW a b) (k : Q (.int (a * b)) H) : bMul (.int a) (.int b) H Q := .inr (.inl ⟨a, b, rfl, rfl, n, k⟩)
theorem v_mulL (h : H l = some (.lst xs)) (n : -(2 ^ 63) ≤ a ∧ a < 2 ^ 63 ∧ xs.length * a.toNat ≤ sizeLine) (k : ∀ p, H p = none → Q (.ref p) (upd H p (.lst (List.replicate a.toNat xs).flatten))) : bMul (.ref l) (.int a) H Q :=
  .inr (.inr ⟨l, a, xs, rfl, rfl, h, n.1, n.2.1, n.2.2, k⟩)
theorem v_mod (n : 0 < b) (k : Q (.int (a % b)) H) : bMod (.int a) (.int b) H Q := ⟨a, b, rfl, rfl, n, k⟩
theorem v_div (n : 0 < b ∧ b < 1073741824) (k : Q (.int (a / b)) H) : bDiv (.int a) (.int b) H Q := .inl ⟨a, b, rfl, rfl, n, k⟩
theorem v_divW (n : CDivW a b) (k : Q (.int (a / b)) H) : bDiv (.int a) (.int b) H Q := .inr ⟨a, b, rfl, rfl, n, k⟩
theorem v_pow (n : CPow a b) (k : Q (.int (a ^ b.toNat)) H) : bPow (.int a) (.int b) H Q := ⟨a, b, rfl, rfl, n, k⟩
theorem v_eq (k : Q (.bl (decide (a = b))) H) : cEq K (.int a) (.int b) H Q := .inl ⟨rfl, by
  have e : decide (V.int a = V.int b) = decide (a = b) := by
    by_cases h : a = b
    · subst h; simp
    · rw [decide_eq_false h, decide_eq_false (fun z => h (V.int.inj z))]
  rw [e]; exact k⟩
theorem v_eqS {s z : Str} (k : Q (.bl (decide (s = z))) H) : cEq K (.str s) (.str z) H Q := .inl ⟨rfl, by
  have e : decide (V.str s = V.str z) = decide (s = z) := by
    by_cases h : s = z
    · subst h; simp
    · rw [decide_eq_false h, decide_eq_false (fun z => h (V.str.inj z))]
  rw [e]; exact k⟩
theorem v_ne (k : Q (.bl (!decide (a = b))) H) : cNe K (.int a) (.int b) H Q := .inl ⟨rfl, by
  have e : decide (V.int a = V.int b) = decide (a = b) := by
    by_cases h : a = b
    · subst h; simp
    · rw [decide_eq_false h, decide_eq_false (fun z => h (V.int.inj z))]
  rw [e]; exact k⟩
theorem v_neS {s z : Str} (k : Q (.bl (!decide (s = z))) H) : cNe K (.str s) (.str z) H Q := .inl ⟨rfl, by
  have e : decide (V.str s = V.str z) = decide (s = z) := by
    by_cases h : s = z
    · subst h; simp
    · rw [decide_eq_false h, decide_eq_false (fun z => h (V.str.inj z))]
  rw [e]; exact k⟩
theorem v_eqD {d e : PyData} (h1 : Dp K H x d) (h2 : Dp K H y e) (s1 : SeqAt.shaped d = true) (s2 : SeqAt.shaped e = true) (k : Q (.bl (PyData.eqv d e)) H) : cEq K x y H Q := .inr ⟨d, e, h1, h2, s1, s2, k⟩
theorem v_neD {d e : PyData} (h1 : Dp K H x d) (h2 : Dp K H y e) (s1 : SeqAt.shaped d = true) (s2 : SeqAt.shaped e = true) (k : Q (.bl (!PyData.eqv d e)) H) : cNe K x y H Q := .inr ⟨d, e, h1, h2, s1, s2, k⟩
theorem v_lt (k : Q (.bl (decide (a < b))) H) : cLt K (.int a) (.int b) H Q := .inl ⟨a, b, rfl, rfl, k⟩
theorem v_le (k : Q (.bl (decide (a ≤ b))) H) : cLe (.int a) (.int b) H Q := ⟨a, b, rfl, rfl, k⟩
theorem v_gt (k : Q (.bl (decide (b < a))) H) : cGt (.int a) (.int b) H Q := ⟨a, b, rfl, rfl, k⟩
theorem v_ge (k : Q (.bl (decide (b ≤ a))) H) : cGe (.int a) (.int b) H Q := ⟨a, b, rfl, rfl, k⟩
theorem v_isN (k : Q (.bl (decide (x = .non))) H) : cIs x .non H Q := .inl ⟨rfl, k⟩
theorem v_notN (k : Q (.bl (!decide (x = .non))) H) : cIsNot x .non H Q := .inl ⟨rfl, k⟩
theorem v_isB {c d : Bool} (k : Q (.bl (decide (c = d))) H) : cIs (.bl c) (.bl d) H Q := .inr ⟨c, d, rfl, rfl, k⟩
theorem v_notB {c d : Bool} (k : Q (.bl (!decide (c = d))) H) : cIsNot (.bl c) (.bl d) H Q := .inr ⟨c, d, rfl, rfl, k⟩
theorem v_ixL (h : H l = some (.lst xs)) (n : atI xs a = some v) (k : Q v H) : bIx P w K (.ref l) (.int a) H Q := .inl ⟨l, xs, a, v, rfl, rfl, SqL.of h, n, k⟩
theorem v_ixK (h : SqL K H l xs) (n : atI xs a = some v) (k : Q v H) : bIx P w K (.ref l) (.int a) H Q := .inl ⟨l, xs, a, v, rfl, rfl, h, n, k⟩
theorem v_ixT (h : H l = some (.tup xs)) (n : atI xs a = some v) (k : Q v H) : bIx P w K (.ref l) (.int a) H Q := .inr (.inl ⟨l, xs, a, v, rfl, rfl, SqT.of h, n, k⟩)
theorem v_setL {R : Hp → Prop} {jj : Nat} (h : H l = some (.lst xs)) (n : ixN xs.length a = some jj) (k : R (upd H l (.lst (xs.set jj v)))) : bSet P w (.ref l) (.int a) v H R := .inl ⟨l, xs, a, jj, rfl, rfl, h, n, k⟩
theorem v_lenL (h : H l = some (.lst xs)) (k : Q (.int xs.length) H) : kLen K [.ref l] H Q := .inl ⟨.ref l, xs.length, rfl, .inl ⟨xs, SqL.of h, rfl⟩, k⟩
theorem v_lenK (h : SqL K H l xs) (k : Q (.int xs.length) H) : kLen K [.ref l] H Q := .inl ⟨.ref l, xs.length, rfl, .inl ⟨xs, h, rfl⟩, k⟩
theorem v_lenT (h : H l = some (.tup xs)) (k : Q (.int xs.length) H) : kLen K [.ref l] H Q := .inl ⟨.ref l, xs.length, rfl, .inr ⟨xs, SqT.of h, rfl⟩, k⟩
theorem v_int (k : Q (.int a) H) : kInt [.int a] H Q := .inl ⟨a, rfl, k⟩
theorem v_intB {c : Bool} (k : Q (.int (if c then 1 else 0)) H) : kInt [.bl c] H Q := .inr ⟨c, rfl, k⟩
theorem v_max (k : Q (.int (if b > a then b else a)) H) : kMax K [.int a, .int b] H Q := .inl ⟨a, b, rfl, k⟩
theorem v_min (k : Q (.int (if b < a then b else a)) H) : kMin K [.int a, .int b] H Q := .inl ⟨a, b, rfl, k⟩
theorem v_maxL {ns : List Int} (h : H l = some (.lst (ns.map V.int))) (n : 0 < ns.length) (k : ∀ m, m ∈ ns → (∀ y, y ∈ ns → y ≤ m) → Q (.int m) H) : kMax K [.ref l] H Q := .inr ⟨l, ns, rfl, SqL.of h, n, k⟩
theorem v_abs (k : Q (.int (if a < 0 then -a else a)) H) : kAbs [.int a] H Q := ⟨a, rfl, k⟩
theorem v_listL (h : H l = some (.lst xs)) (k : ∀ p, H p = none → Q (.ref p) (upd H p (.lst xs))) : kList K [.ref l] H Q := .inl ⟨l, xs, rfl, .inl (SqL.of h), k⟩
theorem v_listT (h : H l = some (.tup xs)) (k : ∀ p, H p = none → Q (.ref p) (upd H p (.lst xs))) : kList K [.ref l] H Q := .inl ⟨l, xs, rfl, .inr (SqT.of h), k⟩
theorem v_tupleL (h : H l = some (.lst xs)) (k : ∀ p, H p = none → Q (.ref p) (upd H p (.tup xs))) : kTuple K [.ref l] H Q := ⟨l, xs, rfl, .inl ⟨SqL.of h, k⟩⟩
theorem v_sortedL {ns : List Int} (h : H l = some (.lst (ns.map V.int))) (k : ∀ (ns' : List Int) (p : Addr), ns'.Perm ns → ns'.Pairwise (· ≤ ·) → H p = none → Q (.ref p) (upd H p (.lst (ns'.map V.int)))) : kSorted K w [.ref l] H Q := .inl ⟨l, ns, rfl, SqL.of h, k⟩
theorem v_sortedS {S : Int → Bool} {n : Nat} (h : H l = some (SetO w l S n)) (k : ∀ (ns : List Int) (p : Addr), ns.Pairwise (· < ·) → (∀ z : Int, z ∈ ns ↔ S z = true) → ns.length = n → H p = none → Q (.ref p) (upd H p (.lst (ns.map V.int)))) : kSorted K w [.ref l] H Q := .inr (.inl ⟨l, S, n, rfl, h, k⟩)
theorem v_sortedT {ns : List Int} (h : H l = some (.tup (ns.map V.int))) (k : ∀ (ns' : List Int) (p : Addr), ns'.Perm ns → ns'.Pairwise (· ≤ ·) → H p = none → Q (.ref p) (upd H p (.lst (ns'.map V.int)))) : kSorted K w [.ref l] H Q := .inr (.inr (.inl ⟨l, ns, rfl, SqT.of h, k⟩))
theorem v_sortedD {kvs : List (L2.Key × V)} {ks : List Int} (h : H l = some (.dK kvs)) (e : kvs.map (·.1) = ks.map Sum.inl) (k : ∀ (ns' : List Int) (p : Addr), ns'.Perm ks → ns'.Pairwise (· ≤ ·) → H p = none → Q (.ref p) (upd H p (.lst (ns'.map V.int)))) : kSorted K w [.ref l] H Q := .inr (.inr (.inr ⟨l, kvs, ks, rfl, h, e, k⟩))
theorem v_set {ns : List Int} (h : H l = some (.lst (ns.map V.int))) (n : ns.length ≤ 4000) (k : ∀ (p : Addr) (c : Nat), H p = none → c ≤ ns.length → Q (.ref p) (upd H p (SetO w p (fun j => decide (j ∈ ns)) c))) : uSetI K w [.ref l] H Q := ⟨l, ns, rfl, SqL.of h, n, k⟩
theorem v_append (h : H l = some (.lst xs)) (n : xs.length < sizeLine) (k : Q .non (upd H l (.lst (xs ++ [v])))) : rAppend (.ref l) [v] H Q := ⟨l, xs, v, rfl, rfl, h, n, k⟩
theorem v_clear (h : H l = some (.lst xs)) (k : Q .non (upd H l (.lst []))) : rClear (.ref l) [] H Q := ⟨l, xs, rfl, rfl, h, k⟩
theorem v_insert (h : H l = some (.lst xs)) (n : xs.length < sizeLine) (z : 0 ≤ a ∧ a < 2 ^ 63) (k : Q .non (upd H l (.lst (xs.take a.toNat ++ [v] ++ xs.drop a.toNat)))) : kInsert (.ref l) [.int a, v] H Q := ⟨l, xs, a, v, rfl, rfl, h, n, z.1, z.2, k⟩
theorem v_slL {lo hi : Option Int} (h : H l = some (.lst xs)) (k : ∀ p, H p = none → Q (.ref p) (upd H p (.lst (cutV xs lo hi)))) : bSl K (.ref l) lo hi H Q := .inl ⟨l, xs, rfl, SqL.of h, k⟩
theorem v_isi {t u : Value} {c : V} {b : Bool} (c1 : ClsV c u) (c2 : TyX K H x t) (e : PySem.W.kitOne K t u = some b) (k : Q (.bl b) H) : rIsi K [x, c] H Q := ⟨x, c, t, u, b, rfl, c1, c2, e, k⟩
theorem v_isiI {n : String} {b : Bool} (e : kitB "int" n = some b) (k : Q (.bl b) H) : rIsi K [.int a, .ty n] H Q := v_isi (.ty n) (.base (.int _)) (kit_ty e) k
theorem v_isiB {n : String} {c b : Bool} (e : kitB "bool" n = some b) (k : Q (.bl b) H) : rIsi K [.bl c, .ty n] H Q := v_isi (.ty n) (.base (.bl _)) (kit_ty e) k
theorem v_isiL {n : String} {b : Bool} (h : H l = some (.lst xs)) (e : kitB "list" n = some b) (k : Q (.bl b) H) : rIsi K [.ref l, .ty n] H Q := v_isi (.ty n) (.base (.lst h)) (kit_ty e) k
theorem v_isiT {n : String} {b : Bool} (h : H l = some (.tup xs)) (e : kitB "tuple" n = some b) (k : Q (.bl b) H) : rIsi K [.ref l, .ty n] H Q := v_isi (.ty n) (.base (.tup h)) (kit_ty e) k
theorem v_isiS {n : String} {s : Str} {b : Bool} (e : kitB "str" n = some b) (k : Q (.bl b) H) : rIsi K [.str s, .ty n] H Q := v_isi (.ty n) (.base (.str _)) (kit_ty e) k
theorem kit_int_int : kitB "int" "int" = some true := by decide +kernel
theorem kit_int_bool : kitB "int" "bool" = some false := by decide +kernel
theorem kit_int_list : kitB "int" "list" = some false := by decide +kernel
theorem kit_int_tuple : kitB "int" "tuple" = some false := by decide +kernel
theorem kit_int_str : kitB "int" "str" = some false := by decide +kernel
theorem kit_bool_int : kitB "bool" "int" = some true := by decide +kernel
theorem kit_bool_bool : kitB "bool" "bool" = some true := by decide +kernel
theorem kit_bool_list : kitB "bool" "list" = some false := by decide +kernel
theorem kit_bool_tuple : kitB "bool" "tuple" = some false := by decide +kernel
theorem kit_bool_str : kitB "bool" "str" = some false := by decide +kernel
theorem kit_list_int : kitB "list" "int" = some false := by decide +kernel
theorem kit_list_bool : kitB "list" "bool" = some false := by decide +kernel
theorem kit_list_list : kitB "list" "list" = some true := by decide +kernel
theorem kit_list_tuple : kitB "list" "tuple" = some false := by decide +kernel
theorem kit_list_str : kitB "list" "str" = some false := by decide +kernel
theorem kit_tuple_int : kitB "tuple" "int" = some false := by decide +kernel
theorem kit_tuple_bool : kitB "tuple" "bool" = some false := by decide +kernel
theorem kit_tuple_list : kitB "tuple" "list" = some false := by decide +kernel
theorem kit_tuple_tuple : kitB "tuple" "tuple" = some true := by decide +kernel
theorem kit_tuple_str : kitB "tuple" "str" = some false := by decide +kernel
theorem kit_str_int : kitB "str" "int" = some false := by decide +kernel
theorem kit_str_bool : kitB "str" "bool" = some false := by decide +kernel
theorem kit_str_list : kitB "str" "list" = some false := by decide +kernel
theorem kit_str_tuple : kitB "str" "tuple" = some false := by decide +kernel
theorem kit_str_str : kitB "str" "str" = some true := by decide +kernel
theorem kit_NoneType_int : kitB "NoneType" "int" = some false := by decide +kernel
theorem kit_NoneType_bool : kitB "NoneType" "bool" = some false := by decide +kernel
theorem kit_NoneType_list : kitB "NoneType" "list" = some false := by decide +kernel
theorem kit_NoneType_tuple : kitB "NoneType" "tuple" = some false := by decide +kernel
theorem kit_NoneType_str : kitB "NoneType" "str" = some false := by decide +kernel
theorem kit_dict_int : kitB "dict" "int" = some false := by decide +kernel
theorem kit_dict_bool : kitB "dict" "bool" = some false := by decide +kernel
theorem kit_dict_list : kitB "dict" "list" = some false := by decide +kernel
theorem kit_dict_tuple : kitB "dict" "tuple" = some false := by decide +kernel
theorem kit_dict_str : kitB "dict" "str" = some false := by decide +kernel
/-! ### loops -/
def kFor (J : It) (g : TG) (tb : TS) (D : Ends) (σ : St) (H : Hp) : Prop := ∃ W : Nat → Nat → St → Hp → Prop, (∃ m, W 0 m σ H) ∧ ∀ i m σ H, W i m σ H →
  (J.stop i H ∧ D.nx σ H) ∨ (J.go i H ∧ ∃ N : St → Hp → Prop, (∀ σ' H', N σ' H' → ∃ m', m' < m ∧ W (i + 1) m' σ' H') ∧ ∀ x H', J.yld i H x H' → g x σ H' fun σ2 H2 => tb { D with nx := N, ct := N, bk := D.nx } σ2 H2)
theorem r_for {wi : TI} (k : wi σ H fun J H1 => kFor J g tb D σ H1) : tFor wi g tb D σ H := k
def kRng1 (vs : List V) (H : Hp) (R : It → Hp → Prop) : Prop := ∃ j : Int, vs = [.int j] ∧ -(2 ^ 62) ≤ j ∧ j < 2 ^ 62 ∧ R (Itr 0 j.toNat) H
theorem r_rng1 {R : It → Hp → Prop} (k : tr σ H fun vs H1 => kRng1 vs H1 R) : iRng1 tr σ H R := k
theorem r_krng1 {R : It → Hp → Prop} (n : -(2 ^ 62) ≤ a ∧ a < 2 ^ 62) (k : R (Itr 0 a.toNat) H) : kRng1 [.int a] H R := ⟨a, rfl, n.1, n.2, k⟩
theorem r_iany {R : It → Hp → Prop} (k : te σ H fun x H1 => kIter K x H1 R) : iAny K te σ H R := k
theorem r_kiterL {R : It → Hp → Prop} (h : H l = some (.lst xs)) (k : R (Itl K l) H) : kIter K (.ref l) H R := .inl ⟨l, rfl, ⟨xs, SqL.of h⟩, k⟩
theorem r_kiterT {R : It → Hp → Prop} (h : H l = some (.tup xs)) (k : R (Itt K l) H) : kIter K (.ref l) H R := .inr (.inl ⟨l, rfl, ⟨xs, SqT.of h⟩, k⟩)
def kLc (J : It) (g : TG) (tt : TT) (te : TE) (vs : List Nat) (σ : St) (H1 : Hp) (Q : VK) : Prop := ∀ D, H1 D = none → ∃ W : Nat → Nat → Hp → Prop, (∃ m, W 0 m (upd H1 D (.lst []))) ∧ ∀ i m H, W i m H →
  (J.stop i H ∧ Q (.ref D) H) ∨ (J.go i H ∧ ∃ Nx : Hp → Prop, (∀ H', Nx H' → ∃ m', m' < m ∧ W (i + 1) m' H') ∧ ∀ x H', J.yld i H x H' → g x (wipe σ vs) H' fun σ2 H2 => wipe σ2 vs = wipe σ vs ∧ tt σ2 H2 fun b H3 =>
    if b = true then te σ2 H3 fun y H4 => ∃ acc, H4 D = some (.lst acc) ∧ acc.length < sizeLine ∧ Nx (upd H4 D (.lst (acc ++ [y]))) else Nx H3)
theorem r_lc {wi : TI} {vs : List Nat} (k : wi σ H fun J H1 => kLc J g tt te vs σ H1 Q) : tLc wi g tt te vs σ H Q := k
def kRg (x : V) (H : Hp) (R : Int → Int → Hp → Prop) : Prop := ∃ n, x = .int n ∧ R 0 n H
theorem r_lstRg1 (k : te σ H fun x H1 => kRg x H1 fun c d H2 => RgOk c d ∧ ∀ q, H2 q = none → Q (.ref q) (upd H2 q (.lst (rgV c d)))) : tLstRg (tRg1 te) σ H Q := k
theorem r_krg {R : Int → Int → Hp → Prop} (k : R 0 a H) : kRg (.int a) H R := ⟨a, rfl, k⟩
theorem absF {J : It} {S : Hp → Prop} (h : S H) (k : ∀ HT, S HT → kFor J g tb D σ HT) : kFor J g tb D σ H := k H h
theorem r_yes {R : Bool → Hp → Prop} (k : R true H) : tYes σ H R := k
theorem r_seqT {n : Nat} {ts : TGs} {R : St → Hp → Prop} (h : H l = some (.tup xs)) (e : xs.length = n) (k : ts xs σ H R) : gSeq K n ts (.ref l) σ H R := .inl ⟨l, xs, rfl, SqT.of h, e, k⟩
theorem r_seqL {n : Nat} {ts : TGs} {R : St → Hp → Prop} (h : H l = some (.lst xs)) (e : xs.length = n) (k : ts xs σ H R) : gSeq K n ts (.ref l) σ H R := .inr ⟨l, xs, rfl, SqL.of h, e, k⟩
theorem r_gcons {ts : TGs} {R : St → Hp → Prop} (k : g v σ H fun σ' H' => ts xs σ' H' R) : gCons g ts (v :: xs) σ H R := ⟨v, xs, rfl, k⟩
theorem r_gnil {R : St → Hp → Prop} (k : R σ H) : gNil [] σ H R := ⟨rfl, k⟩
end
end Hm

/-! F4: a caught error held as a value behind its suite; isinstance of it. -/
namespace Hm
open PySem PySem.Spec PyProof.Rows L2
/-- an error of the class cls at a -/
def ExV (cls : Value) (a : Addr) : HO := .ext fun h => ∃ (oe : Obj) (vs : Array Value), h.get? a = some oe ∧ Zc cls none oe ∧ oe.data = .fields vs
theorem exV_ok {P : Program} {w : World} {H : Hp} {h : Heap} {a : Addr} {cls : Value} {oe : Obj} {vs : Array Value} (e : h.get? a = some oe) (z : Zc cls none oe) (d : oe.data = .fields vs) : ObjOk P w H h a (ExV cls a) :=
  ⟨⟨oe, vs, e, z, d⟩, ⟨oe, e⟩, fun _ _ ⟨o, v, q, r⟩ k => ⟨o, v, k o q, r⟩⟩
section
variable {X : Cx} {pins : List (Addr × Obj)} {σ : L2.St} {H : Hp} {s : Shared}
/-- an object of ours, not told of yet, is told of -/
theorem show_ {a : Addr} {φ : Heap → Prop} (I : Inv X pins σ H s) (ha : H a = none) (h0 : X.s_0.heap.get? a = none) (hL : X.env.locals ≠ a) (hc : ∀ x c, X.env.cells.lookup x = some c → c ≠ a) (hp : ∀ p ∈ X.pn ++ pins, p.1 ≠ a)
    (new : ObjOk X.prog X.w (upd H a (.ext φ)) s.heap a (.ext φ)) : Inv X pins σ (upd H a (.ext φ)) s := by
  have old : ∀ b o, H b = some o → upd H a (.ext φ) b = some o := fun b o e => by rw [upd_ne (ne_of_none e ha)]; exact e
  refine ⟨I.ok, I.os, I.bare, ⟨I.base.keep, I.base.slot, fun b o e n hx => ?_, I.base.there, fun b xs e => old _ _ (I.base.tups b xs e), fun b o u e => old _ _ (I.base.frzs b o u e), fun b ps e => ?_⟩, I.loc, I.cell, ?_, fun x c e => ?_, fun p hpp => ?_, fun b u e => ?_, I.len⟩
  · rw [upd_ne (fun z => by rw [z, h0] at e; cases e)]
    exact I.base.free b o e n hx
  · obtain ⟨more, q⟩ := I.base.tbls b ps e
    exact ⟨more, old _ _ q⟩
  · rw [upd_ne hL]; exact I.free
  · rw [upd_ne (hc x c e)]; exact I.freeC x c e
  · obtain ⟨q1, q2, q3⟩ := I.pin p hpp
    exact ⟨q1, by rw [upd_ne (hp p hpp)]; exact q2, q3⟩
  · by_cases hb : b = a
    · subst hb
      rw [upd_same] at e
      cases e
      exact new
    · rw [upd_ne hb] at e
      exact (I.hok b u e).stay (fun _ _ _ q => q) (fun c q => old _ _ q) fun c xs q => old _ _ q
end
/-- what a clause «except c as n» wishes, the error kept: slot i is n's -/
def wVal (K : PySem.W.Frag) (c : Value) (i : Nat) (ts : Addr → Value → TS) (Wout : WX) (D : Ends) : WX := fun cls d σ H =>
  d = none ∧ ∃ b, PySem.W.exmOne K cls c = some b ∧
    (b = true → ∀ a, H a = none → ts a cls { nx := fun σ' H' => D.nx (σ'.set i none) (upd H' a (ExV cls a)), rt := D.rt, bk := fun _ _ => False, ct := fun _ _ => False } (σ.set i (some (.ref a))) H) ∧ (b = false → Wout cls d σ H)
section
variable {X : Cx} {x n : Str} {c : Value} {i : Nat} {body suite : List Stmt} {b₀ : Stmt} {np pos pos' : Pos} {tb : WX → TS} {ts : Addr → Value → TS} {Wout : WX}
/-- try: body, except x as n: suite; what is caught stays an object that is known -/
theorem ps_try_val (hs : X.stack = X.env :: X.outer) (hf : X.env.frame = some X.env.locals) (hN : X.N.Nodup) (hi : X.N[i]? = some n) (hln : X.env.kindOf n = some .local) (hc : Names X x c) (tk : Takes X Wout) (hex : X.ex = [])
    (hb : ∀ (W : WX) (pn : List (Addr × Obj)) (xe : Value → Shared → Prop), Takes (X.tr pn xe) W → PassesOwn (model X.prog X.w) X.A X.env xe → PSs (X.tr pn xe) body (tb W))
    (hsu : ∀ (a : Addr) (oe : Obj) (cls : Value) (pn : List (Addr × Obj)), PSs (X.suite a ((a, oe) :: pn)) (b₀ :: suite) (ts a cls)) :
    PS X (.Try body [.ExceptHandler (some (.Name x np)) (some n) (b₀ :: suite) pos'] [] [] pos) (fun D σ H => tb (wVal X.K c i ts Wout D) D σ H) := by
  refine ⟨fun pins s σ H D I h => wpAny_Try_except ?_⟩
  have ok := I.ok
  have hfr : X.A.frames = some (X.env :: X.outer) := by rw [ok.frames, hs]
  have run := (hb (wVal X.K c i ts Wout D) (X.pn ++ pins) (fun e s₁ => wpAny (model X.prog X.w) X.A (noteFrame e X.env) (fun _ s₂ => wpAny (model X.prog X.w) X.A (setFlight e none)
    (fun _ s₃ => wpAny (model X.prog X.w) X.A (handleBy e X.env [.ExceptHandler (some (.Name x np)) (some n) (b₀ :: suite) pos']) (SP X pins D) X.xe s₃) X.xe s₂) X.xe s₁) ?_ PassesOwn.looking).run [] s σ H D (I.toTry _) h
  · refine wpAny_mono run (fun f s1 hsp => ?_) fun _ _ z => z
    cases f with
    | next => obtain ⟨σ', H', J', q⟩ := hsp; exact wpAny_execs_nil ⟨σ', H', J'.ofTry ok, q⟩
    | brk => obtain ⟨σ', H', J', q⟩ := hsp; exact ⟨σ', H', J'.ofTry ok, q⟩
    | cont => obtain ⟨σ', H', J', q⟩ := hsp; exact ⟨σ', H', J'.ofTry ok, q⟩
    | ret u => obtain ⟨v, σ', H', J', r, q⟩ := hsp; exact ⟨v, σ', H', J'.ofTry ok, r, q⟩
  rintro u s' ⟨a, B, sI, pins', σ', H', cls, d, rfl, J', nb, up, sky, na, os, ag, rfl, b, hb1, hyes, hno⟩
  have J : Inv X pins σ' H' sI := J'.ofTry ok
  have air : Sky B (X.env :: X.outer) a (Zc cls none) X.env.locals s'.heap := by rw [← hs]; exact sky
  show wpAny (model X.prog X.w) X.A (noteFrame (.ref a) X.env) _ _ _
  refine Sky.land Zc.steady hfr hf air fun h3 fl3 up3 => ?_
  have J3 : Inv X pins σ' H' { s' with heap := h3 } := J.landed nb fl3.1 (up.trans up3) os ag
  obtain ⟨oe3, vs3, he3, hz3, hd3⟩ := fl3.there
  have aside : a ∉ frs (X.env :: X.outer) := fun hm => by
    obtain ⟨_, o', e', hnf⟩ := fl3.2.2.1.mem hm
    rw [he3] at e'; cases e'
    exact hnf _ hd3
  have gI : sI.heap.get? a = none := by
    cases e : sI.heap.get? a with
    | none => rfl
    | some o =>
      have q := nb a o e (by show a ∉ frs X.stack; rw [hs]; exact aside)
      rw [fl3.2.1] at q; cases q
  have nL : a ≠ X.env.locals := fun z => aside (List.mem_filterMap.mpr ⟨X.env, List.mem_cons_self, by rw [hf, z]⟩)
  have nF : a ∉ X.fs := fun hm => by
    obtain ⟨e, he, q⟩ := List.mem_filterMap.mp hm
    exact aside (List.mem_filterMap.mpr ⟨e, List.mem_cons_of_mem _ he, q⟩)
  have h00 : X.s_0.heap.get? a = none := by
    cases e : X.s_0.heap.get? a with
    | none => rfl
    | some o =>
      obtain ⟨o', q⟩ := J.base.there a o e (by rw [hex]; exact List.not_mem_nil)
      rw [gI] at q; cases q
  have noCell : ∀ y k, X.env.cells.lookup y = some k → k ≠ a := fun y k e z => by
    obtain ⟨v, o, q, _⟩ := J.cell y k e
    rw [z, gI] at q; cases q
  have noPin : ∀ p ∈ X.pn ++ pins, p.1 ≠ a := fun p hp z => by
    have q := (J.pin p hp).1
    rw [z, gI] at q; cases q
  have S3 := J3.suite he3 hd3 na nL nF
  refine wpAny_handleBy_cons (codeAny_handlers_test ?_) (by intro q; cases q)
  have LT : PySem.W.Looks (model X.prog X.w) h3 (typeOf (.ref a)) cls := fun A Q E s k q => wpAny_typeOf_ref (k _ _ he3) (by rw [hz3.1]; exact q)
  have LM := PySem.W.exm_one (M := model X.prog X.w) (J3.kIn) LT hb1
  have test : ∀ {Q : Value → Shared → Prop} {E : Value → Shared → Prop}, Q c { s' with heap := h3 } → wpAny (model X.prog X.w) (X.A.mark (some (.ref a))) (eval (.Name x np) X.env) Q E { s' with heap := h3 } := fun {Q E} q => by
    obtain ⟨hg, hdbg, hm | ⟨hm, hv, hnn⟩⟩ := hc
    · exact ld_glob (X := X.suite a ((a, oe3) :: (X.pn ++ pins))) S3 hg hm q hdbg
    · exact ld_blt (X := X.suite a ((a, oe3) :: (X.pn ++ pins))) S3 hg hm hv q hnn hdbg
  refine test (LM.here ?_)
  cases b with
  | false =>
    show wpAny _ X.A (handleBy (.ref a) X.env []) _ _ _
    refine wpAny_handleBy_nil ?_
    obtain ⟨k1, k2, k3, oe, vs, T, oT, ts', he, hz, hd, h1, hr⟩ := id fl3
    unfold PySem.passOn
    refine wpAny_bind (wpAny_field he hd h1 ?_)
    rw [if_neg (show ¬ ((Value.ref T == Value.none) = true) from by simp)]
    have fin : wpAny (model X.prog X.w) X.A (setFlight (.ref a) X.env.frame) (fun _ s4 => wpAny (model X.prog X.w) X.A (throw (.ref a) : Sem Flow) (SP X pins D) X.xe s4) X.xe { s' with heap := h3 } := by
      rw [hf]
      refine HandSPX.setFlight_upZ fl3 fun h4 hh4 up4 => wpAny_throw (tk _ _ ?_)
      exact ⟨a, B, sI, pins, σ', H', cls, none, rfl, J, nb, (up.trans up3).trans up4, .inr (.inr (by rw [hs]; exact hh4)), na, os, ag, hno rfl⟩
    first
      | exact wpAny_bind (wpAny_pure (wpAny_bind fin))
      | exact wpAny_bind fin
  | true =>
    refine codeAny_handlers_suite_as (HandSPX.lands_againZ fl3 fun h4 fl4 up4 => ?_)
    have J4 : Inv X pins σ' H' { s' with heap := h4 } := J.landed nb fl4.1 ((up.trans up3).trans up4) os ag
    obtain ⟨oe4, vs4, he4, hz4, hd4⟩ := fl4.there
    have S4 := J4.suite he4 hd4 na nL nF
    refine store_ok (X := X.suite a ((a, oe4) :: (X.pn ++ pins))) (v := .ref a) S4 hN hi (.inl hln) rfl (fun s5 S5 => ?_) (.inr hln)
    refine wpAny_mono ((hsu a oe4 cls (X.pn ++ pins)).run [] s5 _ H' _ S5 (hyes rfl a na)) (fun f s6 hsp => ?_) (fun _ _ z => False.elim z)
    cases f with
    | next =>
      obtain ⟨σ6, H6, S6, q6⟩ := hsp
      obtain ⟨e6, n6, _⟩ := S6.pin (a, oe4) (List.mem_append_left _ List.mem_cons_self)
      have J6 : Inv X pins σ6 H6 s6 := S6.unsuite ok
      have J7 := show_ (φ := fun h => ∃ (oe : Obj) (vs : Array Value), h.get? a = some oe ∧ Zc cls none oe ∧ oe.data = .fields vs) J6 n6 h00 nL.symm noCell noPin (exV_ok e6 hz4 hd4)
      exact gone_ok J7 hN hi hln fun s7 J8 => ⟨_, _, J8, q6⟩
    | brk => obtain ⟨σ6, H6, S6, q6⟩ := hsp; exact q6.elim
    | cont => obtain ⟨σ6, H6, S6, q6⟩ := hsp; exact q6.elim
    | ret u =>
      obtain ⟨v6, σ6, H6, S6, r6, q6⟩ := hsp
      exact gone_ok (S6.unsuite ok) hN hi hln fun s7 J7 => ⟨_, _, _, J7, r6, q6⟩
end
/-- isinstance(e, C), e an error that is known -/
def uIsV (K : PySem.W.Frag) : List V → Hp → VK → Prop := fun xs H Q => ∃ (a D : Addr) (c : V) (u : Value) (b : Bool), xs = [.ref a, c] ∧ H a = some (ExV (.ref D) a) ∧ ExcC K D ∧ ClsV c u ∧ PySem.W.kitOne K (.ref D) u = some b ∧ Q (.bl b) H
theorem k_isV {X : Cx} : CallR X (.builtin "isinstance") (uIsV X.K) := by
  intro pins s σ H xs us Q I r h
  obtain ⟨a, D, c, u, b, rfl, ha, C, hc, e, q⟩ := h
  obtain ⟨u1, u2, rfl, r1, r2⟩ := vals2 r
  have e2 := hc.eq r2
  subst e2
  cases r1
  obtain ⟨⟨oe, vs, hg, hz, hv⟩, _⟩ := I.hok a _ ha
  have J : PySem.W.InstAt s.heap a oe D none := by
    obtain ⟨oc, od, oda, osl⟩ := oe
    obtain ⟨h1, h2⟩ := hz
    dsimp only at h1 h2 hv
    subst h1 h2 hv
    exact ⟨hg, rfl, rfl, trivial⟩
  exact PySem.W.kia_one (PySem.W.handS_kitx_exc C.hg C.hk C.hs C.hd C.ha C.hn C.ht C.hm) I.kIn J e (fun z => nomatch z) fun tk => ⟨.bl b, H, I.tok tk, rfl, q⟩
/-! ### defs that raise, called within a try -/
section
variable {X : Cx} {k j : Nat} {C : Addr} {x m : Str} {sp : Sp} {p pos apos : Pos} {e o : Expr} {es : List Expr} {ta : TE} {t : TA} {W : WX}
def tMethS (C : Addr) (m : Str) (sp : Sp) (W : WX) (ta : TE) (t : TA) : TE := fun σ H Q => tMeth C m sp [] (fun cls d H => W cls d σ H) ta t σ H Q
theorem r_methS {σ : L2.St} {H : Hp} {Q : VK} (h : tMeth C m sp [] (fun cls d H => W cls d σ H) ta t σ H Q) : tMethS C m sp W ta t σ H Q := h
def tCallW (sp : Sp) (W : WX) (t : TA) : TE := fun σ H Q => tCall sp [] (fun cls d H => W cls d σ H) t σ H Q
theorem r_callW {σ : L2.St} {H : Hp} {Q : VK} (h : tCall sp [] (fun cls d H => W cls d σ H) t σ H Q) : tCallW sp W t σ H Q := h
theorem e_callS (c : Cal X.prog X.w X.K X.mg X.base (L2.CX X.prog X.w) k x sp) (hr : Room j X.A) (hk : k ≤ j) (tk : Takes X W) (hg : Gl X x) (ha : PA X (e :: es) t)
    (hdb : (x == ("__debug__" : Str)) = false := by decide) (he : starEach (e :: es) X.env = (false, eval e X.env) :: starEach es X.env := by rfl) (hpl : (backTo pos (starEach es X.env)).any (·.1) = false := by rfl) :
    PE X (.Call (.Name x p) (e :: es) [] pos) (tCallW sp W t) := by
  obtain ⟨f, fd, ps, F, hm, kp, b⟩ := c.ex
  refine ⟨fun pins s σ H Q I h => ?_⟩
  refine (pe_callS (E := WE W) F (hr.mono hk) hg hm kp b (fun σ => passAt tk σ) ha hdb he hpl).run pins s σ H Q I ?_
  have h' : t σ H fun vs H1 => sp (vs ++ []) H1 Q (fun cls d H => W cls d σ H) := h
  show t σ H fun vs H1 => sp vs H1 Q (fun cls d H => W cls d σ H)
  simpa only [List.append_nil] using h'
theorem e_methS {pl : Sem Bool} (c : Met X.prog X.w X.K X.mg X.base (L2.CX X.prog X.w) k C m sp) (hr : Room j X.A) (hk : k ≤ j) (tk : Takes X W) (he : PE X o ta) (ha : PA X (e :: es) t)
    (h1 : starEach (e :: es) X.env = (false, eval e X.env) :: starEach es X.env := by rfl) (h2 : (backTo pos (starEach es X.env)).any (·.1) = false := by rfl)
    (h3 : eval (.Call (.Attribute o m apos) (e :: es) [] pos) X.env = (do let ov ← eval o X.env; standAt apos.atName; let (f, first) ← holding [ov] (getMethod ov m pl)
                                                                          callWith pos f first (backTo pos (starEach (e :: es) X.env)) (backToKw pos (keywordEach [] X.env))) := by rfl) :
    PE X (.Call (.Attribute o m apos) (e :: es) [] pos) (tMethS C m sp W ta t) := by
  obtain ⟨f, fd, ps, hc, hm, F, b⟩ := c.ex
  refine ⟨fun pins s σ H Q I h => PySem.W.methodCall_KW (pl := pl) (thn (he.run pins s σ H _ I h) fun u s1 ⟨y, H1, I1, rx, a, dx, fs, ey, ea, l, q⟩ => ?_) h3⟩
  subst ey
  obtain rfl : u = Value.ref a := rx
  refine getmeth_ok I1 ea hc hm l (PySem.W.callWith_K (first := [.ref a]) (h₀ := X.base) I.ok.mod.kin hm.kp (thn (ha.run pos pins s1 σ H1 _ I1 q) fun us s2 ⟨vs, H2, I2, r, q2⟩ => ⟨I2.kIn, ?_⟩) h1 h2)
  refine run_fnS (E := WE W) (us := .ref a :: us) (vs := .ref a :: vs) F (hr.mono hk) b (fun _ _ _ e s' I c => tk e s' (XE.of_call I (fun _ _ _ h => h) c)) I2 (.cons rfl r) ?_
  have q' : sp (.ref a :: vs ++ []) H2 Q (fun cls d H => W cls d σ H) := q2
  simpa only [List.append_nil] using q'
end
/-! ### raise -/
def tRaiseC (C : Addr) (W : WX) : TS := fun _ σ H => W (.ref C) none σ H
def tRaiseE (C : Addr) (W : WX) (te : TE) : TS := fun _ σ H => te σ H fun _ H1 => W (.ref C) none σ H1
theorem r_raiseC {C : Addr} {W : WX} {D : Ends} {σ : L2.St} {H : Hp} (h : W (.ref C) none σ H) : tRaiseC C W D σ H := h
theorem r_raiseE {C : Addr} {W : WX} {te : TE} {D : Ends} {σ : L2.St} {H : Hp} (h : te σ H fun _ H1 => W (.ref C) none σ H1) : tRaiseE C W te D σ H := h
/-- what stands of a refusal's class -/
structure XCl (K : PySem.W.Frag) (mg : Str → Option Value) (x : Str) (C : Addr) : Prop where
  g : mg x = some (.ref C)
  x : PySem.W.excIn K C [.type "ValueError", .type "Exception", .type "BaseException", .type "object"] "ValueError.__new__" = true
  k : PySem.W.keepIn K (.ref C) = true
  b : PySem.W.subIn K (.ref C) (.type "BaseException") = some true
  t : PySem.W.typeIn K (.ref C) = some (.type "type")
section
variable {X : Cx} {C : Addr} {x m : Str} {p p2 pos pos' : Pos} {jj : Nat} {e : Expr} {ta : TE} {W : WX}
theorem ps_raiseC (hc : X.calm = true) (tk : Takes X W) (c : XCl X.K X.mg x C) (hg : Gl X x) (hdb : (x == ("__debug__" : Str)) = false := by decide) : PS X (.Raise (some (.Call (.Name x p) [.Constant (.str m) jj p2] [] pos)) none pos') (tRaiseC C W) :=
  ps_raise hc tk (pmk_own PySem.F.excBase_ValueError c.x c.g c.k (raises_own c.b c.t) hg hdb)
theorem ps_raiseE (hc : X.calm = true) (tk : Takes X W) (c : XCl X.K X.mg x C) (hg : Gl X x) (he : PE X e ta) (hs : starEach [e] X.env = (false, eval e X.env) :: starEach [] X.env := by rfl) (hdb : (x == ("__debug__" : Str)) = false := by decide) :
    PS X (.Raise (some (.Call (.Name x p) [e] [] pos)) none pos') (tRaiseE C W ta) :=
  ps_raise hc tk (SkE.pmk_own1 PySem.F.excBase_ValueError c.x c.g c.k (raises_own c.b c.t) hg he hs hdb)
end
/-! ### try -/
def tTryV (K : PySem.W.Frag) (c : Value) (i : Nat) (ts : TS) (tb : WX → TS) : TS := fun D σ H => tb (wVal K c i (fun _ _ => ts) (fun _ _ _ _ => False) D) D σ H
theorem r_tryV {K : PySem.W.Frag} {c : Value} {i : Nat} {ts : TS} {tb : WX → TS} {D : Ends} {σ : L2.St} {H : Hp} (h : tb (wVal K c i (fun _ _ => ts) (fun _ _ _ _ => False) D) D σ H) : tTryV K c i ts tb D σ H := h
theorem w_val {K : PySem.W.Frag} {c cls : Value} {i : Nat} {ts : TS} {D : Ends} {σ : L2.St} {H : Hp} (hm : PySem.W.exmOne K cls c = some true)
    (h : ∀ a, H a = none → ts { nx := fun σ' H' => D.nx (σ'.set i none) (upd H' a (ExV cls a)), rt := D.rt, bk := fun _ _ => False, ct := fun _ _ => False } (σ.set i (some (.ref a))) H) : wVal K c i (fun _ _ => ts) (fun _ _ _ _ => False) D cls none σ H :=
  ⟨rfl, true, hm, fun _ a ha => h a ha, fun z => nomatch z⟩
section
variable {X : Cx} {x n : Str} {c : Value} {i : Nat} {body suite : List Stmt} {b₀ : Stmt} {np pos pos' : Pos} {tb : WX → TS} {ts : TS}
theorem ps_tryV (hs : X.stack = X.env :: X.outer) (hf : X.env.frame = some X.env.locals) (hN : X.N.Nodup) (hi : X.N[i]? = some n) (hln : X.env.kindOf n = some .local) (hc : Names X x c) (hex : X.ex = [])
    (hb : ∀ (W : WX) (pn : List (Addr × Obj)) (xe : Value → Shared → Prop), Takes (X.tr pn xe) W → PassesOwn (model X.prog X.w) X.A X.env xe → PSs (X.tr pn xe) body (tb W))
    (hsu : ∀ (a : Addr) (oe : Obj) (pn : List (Addr × Obj)), PSs (X.suite a ((a, oe) :: pn)) (b₀ :: suite) ts) :
    PS X (.Try body [.ExceptHandler (some (.Name x np)) (some n) (b₀ :: suite) pos'] [] [] pos) (tTryV X.K c i ts tb) :=
  ps_try_val (tb := tb) (ts := fun _ _ => ts) hs hf hN hi hln hc takes0 hex (fun W pn xe tk po => hb W pn xe tk po) fun a oe _ pn => hsu a oe pn
end
theorem v_isiN {K : PySem.W.Frag} {H : Hp} {Q : VK} {n : String} {b : Bool} (e : kitB "NoneType" n = some b) (k : Q (.bl b) H) : rIsi K [.non, .ty n] H Q := v_isi (.ty n) (.base .non) (kit_ty e) k
theorem v_isV {K : PySem.W.Frag} {a D : Addr} {c : V} {u : Value} {b : Bool} {H : Hp} {Q : VK} (h : H a = some (ExV (.ref D) a)) (d : ExcC K D) (hc : ClsV c u) (e : PySem.W.kitOne K (.ref D) u = some b) (q : Q (.bl b) H) : uIsV K [.ref a, c] H Q := ⟨a, D, c, u, b, rfl, h, d, hc, e, q⟩
/-! ### list(d.values()), xs.remove(k) -/
/-- a view of the values of the dict at a -/
def ValO (a p : Addr) : HO := .ext fun h => h.IsValuesView p a
def rDVals : V → List V → Hp → VK → Prop := fun x xs H Q => ∃ (a : Addr) (kvs : List (L2.Key × V)), x = .ref a ∧ xs = [] ∧ H a = some (.dK kvs) ∧ ∀ p, H p = none → Q (.ref p) (upd H p (ValO a p))
def rListV : List V → Hp → VK → Prop := fun xs H Q => ∃ (a p : Addr) (kvs : List (L2.Key × V)), xs = [.ref p] ∧ H p = some (ValO a p) ∧ H a = some (.dK kvs) ∧ ∀ q, H q = none → Q (.ref q) (upd H q (.lst (kvs.map (·.2))))
section
variable {X : Cx}
theorem mt_dvals : MtR X "dict.values" rDVals := by
  intro pins s σ H x xs v us Q I rx r h
  obtain ⟨a, kvs, rfl, rfl, ha, q⟩ := h
  obtain rfl : v = Value.ref a := rx
  cases r
  obtain ⟨_, hsys, vs, rel, dof⟩ := dk_of I.hok ha
  obtain ⟨ep, dat⟩ := dof.dictAt
  obtain ⟨ob, es, ho, ex, hdat, hko, hpr, hnd⟩ := id dat
  refine call_meetsIn F.slot_dict_values ⟨ob, ho, ex.1⟩ F.entry_dict_values (F.args_dict_values_1 _) (meets_dict_values (mixKind X.prog X.w) a hsys) ⟨⟨vs, dof⟩, ?_⟩
  exact ⟨.ref s.heap.objs.size, upd H s.heap.objs.size (ValO a s.heap.objs.size), I.laid (t' := s.toks) (fun b u e => Heap.get?_push_of_some _ e) (Nat.le_refl _) ⟨⟨_, Heap.get?_push_size _ rfl, rfl, rfl⟩, ⟨_, Heap.get?_push_size _ rfl⟩, fun _ _ ⟨o, e, z⟩ k => ⟨o, k o e, z⟩⟩, rfl, q _ (I.hok.fresh (Nat.le_refl _))⟩
theorem k_listV (hc : X.calm = true) : CallR X (.type "list") rListV := by
  intro pins s σ H xs us Q I r h
  obtain ⟨a, p, kvs, rfl, hp, ha, q⟩ := h
  obtain ⟨u, rfl, rx⟩ := vals1 r
  obtain rfl : u = Value.ref p := rx
  obtain ⟨view, _⟩ := I.hok p _ hp
  obtain ⟨z, hsys, vs, rel, dof⟩ := dk_of I.hok ha
  obtain ⟨ep, dat⟩ := dof.dictAt
  have hl : kvs.length = vs.length := KV.length rel
  refine PySem.W.kdl_call (PySem.W.kdl_values (knd := mixKind X.prog X.w) (kvs := vs) (ep := ep)) (I.ok.hd hc) ⟨view, dat⟩ (by rw [← hl]; exact z) fun h' tk acc' c' hkeep hS hacc => ?_
  refine ⟨.ref s.heap.objs.size, upd H s.heap.objs.size (.lst (kvs.map (·.2))), I.laid (t' := tk) hkeep (Nat.le_refl _) (show ObjOk X.prog X.w _ _ _ (.lst (kvs.map (·.2))) from ⟨by rw [List.length_map]; exact z, acc'.toList, c', ?_, by rw [Array.toArray_toList]; exact hS⟩), rfl, q _ (I.hok.fresh (Nat.le_refl _))⟩
  have el : acc'.toList.length = acc'.size := by simp
  refine vals_of_at (by rw [List.length_map, el, hacc.1, hl]) fun j x w h1 h2 => ?_
  obtain ⟨k, hk⟩ := hacc.2 j w (by rw [← Array.getElem?_toList]; exact h2)
  obtain ⟨x', e1, e2⟩ := KV.at' rel hk
  rw [List.getElem?_map, e1] at h1
  cases h1
  exact e2
end
theorem v_dvals {a : Addr} {kvs : List (L2.Key × V)} {H : Hp} {Q : VK} (h : H a = some (.dK kvs)) (k : ∀ p, H p = none → Q (.ref p) (upd H p (ValO a p))) : rDVals (.ref a) [] H Q := ⟨a, kvs, rfl, rfl, h, k⟩
theorem r_dvals {K : PySem.W.Frag} {a : Addr} {kvs : List (L2.Key × V)} {H : Hp} {Q : VK} {σ : L2.St} (h : H a = some (.dK kvs)) (k : ∀ p, H p = none → Q (.ref p) (upd H p (ValO a p))) : kBM K "dict" rDVals tNil σ (.ref a) H Q := ⟨.inr (.inr (.inl ⟨rfl, .inl ⟨kvs, h⟩⟩)), v_dvals h k⟩
theorem v_listV {a p : Addr} {kvs : List (L2.Key × V)} {H : Hp} {Q : VK} (h : H p = some (ValO a p)) (h2 : H a = some (.dK kvs)) (k : ∀ q, H q = none → Q (.ref q) (upd H q (.lst (kvs.map (·.2))))) : rListV [.ref p] H Q := ⟨a, p, kvs, rfl, h, h2, k⟩
theorem r_remX {K : PySem.W.Frag} {W : WX} {to te : TE} {σ : L2.St} {H : Hp} {Q : VK} (h : to σ H fun x H1 => tyV K "list" x H1 ∧ te σ H1 fun y H2 => ∃ (l : Addr) (ns : List Int) (k : Int), x = .ref l ∧ y = .int k ∧ H2 l = some (.lst (ns.map V.int)) ∧
  (k ∈ ns → Q .non (upd H2 l (.lst ((ns.erase k).map V.int)))) ∧ (k ∉ ns → ∀ d, W (.type "ValueError") d σ H2)) : tRemX K W to te σ H Q := h
end Hm

/-! F5: values. Rp W H v d: v is the data d, all its objects outside of W. -/
namespace Hm
open PySem PySem.Spec PyProof.Rows L2
mutual
inductive Rp (W : Addr → Prop) (H : Hp) : V → PyData → Prop
  | non : Rp W H .non .none
  | bl (b : Bool) : Rp W H (.bl b) (.bool b)
  | int (i : Int) : Rp W H (.int i) (.int i)
  | str (x : Str) : Rp W H (.str x) (.str x)
  | lst {a : Addr} {xs : List V} {ds : List PyData} : H a = some (.lst xs) → ¬ W a → RpA W H xs ds → Rp W H (.ref a) (.list ds)
  | tup {a : Addr} {xs : List V} {ds : List PyData} : H a = some (.tup xs) → ¬ W a → RpA W H xs ds → Rp W H (.ref a) (.tuple ds)
inductive RpA (W : Addr → Prop) (H : Hp) : List V → List PyData → Prop
  | nil : RpA W H [] []
  | cons {v : V} {vs : List V} {d : PyData} {ds : List PyData} : Rp W H v d → RpA W H vs ds → RpA W H (v :: vs) (d :: ds)
end
section
variable {W W' : Addr → Prop} {H H' : Hp} {K : PySem.W.Frag}
mutual
theorem Rp.move (f : ∀ a o, ¬ W a → H a = some o → H' a = some o ∧ ¬ W' a) : ∀ (d : PyData) (v : V), Rp W H v d → Rp W' H' v d
  | .none, _, h => by cases h; exact .non
  | .bool b, _, h => by cases h; exact .bl b
  | .int i, _, h => by cases h; exact .int i
  | .str x, _, h => by cases h; exact .str x
  | .list ds, _, h => by
    cases h with
    | lst e n r => exact .lst (f _ _ n e).1 (f _ _ n e).2 (RpA.move f ds _ r)
  | .tuple ds, _, h => by
    cases h with
    | tup e n r => exact .tup (f _ _ n e).1 (f _ _ n e).2 (RpA.move f ds _ r)
  | .dict _, _, h => by cases h
theorem RpA.move (f : ∀ a o, ¬ W a → H a = some o → H' a = some o ∧ ¬ W' a) : ∀ (ds : List PyData) (vs : List V), RpA W H vs ds → RpA W' H' vs ds
  | [], _, h => by cases h; exact .nil
  | d :: ds, _, h => by
    cases h with
    | cons r s => exact .cons (Rp.move f d _ r) (RpA.move f ds _ s)
end
mutual
theorem Rp.dp : ∀ (d : PyData) (v : V), Rp W H v d → Dp K H v d
  | .none, _, h => by cases h; exact .non
  | .bool b, _, h => by cases h; exact .bl b
  | .int i, _, h => by cases h; exact .int i
  | .str x, _, h => by cases h; exact .str x
  | .list ds, _, h => by
    cases h with
    | lst e n r => exact .lst (SqL.of e) (RpA.dp ds _ r)
  | .tuple ds, _, h => by
    cases h with
    | tup e n r => exact .tup (SqT.of e) (RpA.dp ds _ r)
  | .dict _, _, h => by cases h
theorem RpA.dp : ∀ (ds : List PyData) (vs : List V), RpA W H vs ds → DpAll K H vs ds
  | [], _, h => by cases h; exact .nil
  | d :: ds, _, h => by
    cases h with
    | cons r s => exact .cons (Rp.dp d _ r) (RpA.dp ds _ s)
end
theorem Rp.keep {v : V} {d : PyData} (h : Rp W H v d) (k : Keep W H H') : Rp W H' v d := Rp.move (fun a o n e => ⟨k a o n e, n⟩) d v h
theorem RpA.keep {v : List V} {d : List PyData} (h : RpA W H v d) (k : Keep W H H') : RpA W H' v d := RpA.move (fun a o n e => ⟨k a o n e, n⟩) d v h
theorem Rp.same {v : V} {d : PyData} (h : Rp W H v d) (k : Keep Nil H H') : Rp W H' v d := h.keep k.weak
theorem RpA.same {v : List V} {d : List PyData} (h : RpA W H v d) (k : Keep Nil H H') : RpA W H' v d := h.keep k.weak
theorem Rp.sub {v : V} {d : PyData} (h : Rp W H v d) (s : ∀ x, W' x → W x) : Rp W' H v d := Rp.move (fun a o n e => ⟨e, fun z => n (s _ z)⟩) d v h
theorem RpA.sub {v : List V} {d : List PyData} (h : RpA W H v d) (s : ∀ x, W' x → W x) : RpA W' H v d := RpA.move (fun a o n e => ⟨e, fun z => n (s _ z)⟩) d v h
/-- a new cell may be marked as one that changes -/
theorem Rp.own {v : V} {d : PyData} {p : Addr} (h : Rp W H v d) (hp : H p = none) : Rp (fun x => W x ∨ x = p) H v d :=
  Rp.move (fun a o n e => ⟨e, fun z => z.elim n (ne_of_none e hp)⟩) d v h
theorem RpA.own {v : List V} {d : List PyData} {p : Addr} (h : RpA W H v d) (hp : H p = none) : RpA (fun x => W x ∨ x = p) H v d :=
  RpA.move (fun a o n e => ⟨e, fun z => z.elim n (ne_of_none e hp)⟩) d v h
/-- W' is W and cells that are new at H -/
theorem Rp.grow {v : V} {d : PyData} (h : Rp W H v d) (s : ∀ x, W' x → W x ∨ H x = none) : Rp W' H v d :=
  Rp.move (fun a o n e => ⟨e, fun z => (s _ z).elim n fun w => by rw [e] at w; cases w⟩) d v h
theorem RpA.grow {v : List V} {d : List PyData} (h : RpA W H v d) (s : ∀ x, W' x → W x ∨ H x = none) : RpA W' H v d :=
  RpA.move (fun a o n e => ⟨e, fun z => (s _ z).elim n fun w => by rw [e] at w; cases w⟩) d v h
theorem Rp.list_ {v : V} {ds : List PyData} (h : Rp W H v (.list ds)) : ∃ a xs, v = .ref a ∧ H a = some (.lst xs) ∧ ¬ W a ∧ RpA W H xs ds := by
  cases h with
  | lst e n r => exact ⟨_, _, rfl, e, n, r⟩
theorem Rp.tuple_ {v : V} {ds : List PyData} (h : Rp W H v (.tuple ds)) : ∃ a xs, v = .ref a ∧ H a = some (.tup xs) ∧ ¬ W a ∧ RpA W H xs ds := by
  cases h with
  | tup e n r => exact ⟨_, _, rfl, e, n, r⟩
theorem Rp.int_ {v : V} {i : Int} (h : Rp W H v (.int i)) : v = .int i := by cases h; rfl
theorem Rp.str_ {v : V} {i : Str} (h : Rp W H v (.str i)) : v = .str i := by cases h; rfl
theorem Rp.bool_ {v : V} {i : Bool} (h : Rp W H v (.bool i)) : v = .bl i := by cases h; rfl
theorem Rp.none_ {v : V} (h : Rp W H v .none) : v = .non := by cases h; rfl
theorem RpA.nil_ {vs : List V} (h : RpA W H vs []) : vs = [] := by cases h; rfl
theorem RpA.cons_ {vs : List V} {d : PyData} {ds : List PyData} (h : RpA W H vs (d :: ds)) : ∃ v r, vs = v :: r ∧ Rp W H v d ∧ RpA W H r ds := by
  cases h with
  | cons r s => exact ⟨_, _, rfl, r, s⟩
theorem Rp.two {v : V} {d e : PyData} (h : Rp W H v (.tuple [d, e])) : ∃ a x y, v = .ref a ∧ H a = some (.tup [x, y]) ∧ ¬ W a ∧ Rp W H x d ∧ Rp W H y e := by
  obtain ⟨a, xs, rfl, e, n, r⟩ := h.tuple_
  obtain ⟨x, _, rfl, r1, r⟩ := r.cons_
  obtain ⟨y, _, rfl, r2, r⟩ := r.cons_
  cases r.nil_
  exact ⟨a, x, y, rfl, e, n, r1, r2⟩
theorem Rp.mk2 {a : Addr} {x y : V} {d e : PyData} (h : H a = some (.tup [x, y])) (n : ¬ W a) (r1 : Rp W H x d) (r2 : Rp W H y e) : Rp W H (.ref a) (.tuple [d, e]) := .tup h n (.cons r1 (.cons r2 .nil))
theorem RpA.len : ∀ {ds : List PyData} {vs : List V}, RpA W H vs ds → vs.length = ds.length
  | [], _, h => by rw [h.nil_]; rfl
  | d :: ds, _, h => by
    obtain ⟨v, r, rfl, _, h⟩ := h.cons_
    rw [List.length_cons, List.length_cons, h.len]
theorem RpA.at_ : ∀ {ds : List PyData} {vs : List V} {i : Nat} {d : PyData}, RpA W H vs ds → ds[i]? = some d → ∃ v, vs[i]? = some v ∧ Rp W H v d
  | [], _, _, _, _, e => by simp at e
  | d :: ds, _, i, x, h, e => by
    obtain ⟨v, r, rfl, h1, h⟩ := h.cons_
    cases i with
    | zero => simp at e; subst e; exact ⟨v, rfl, h1⟩
    | succ i =>
      obtain ⟨w, e1, e2⟩ := h.at_ (i := i) (by simpa using e)
      exact ⟨w, by simpa using e1, e2⟩
theorem RpA.at' {ds : List PyData} {vs : List V} {i : Nat} {v : V} (h : RpA W H vs ds) (e : vs[i]? = some v) : ∃ d, ds[i]? = some d ∧ Rp W H v d := by
  have hi : i < ds.length := by rw [← h.len]; exact (List.getElem?_eq_some_iff.mp e).1
  obtain ⟨w, e1, e2⟩ := h.at_ (List.getElem?_eq_getElem hi)
  rw [e] at e1; cases e1
  exact ⟨_, List.getElem?_eq_getElem hi, e2⟩
theorem RpA.app : ∀ {ds es : List PyData} {vs us : List V}, RpA W H vs ds → RpA W H us es → RpA W H (vs ++ us) (ds ++ es)
  | [], _, _, _, h, k => by rw [h.nil_]; exact k
  | d :: ds, _, _, _, h, k => by
    obtain ⟨v, r, rfl, h1, h⟩ := h.cons_
    exact .cons h1 (h.app k)
theorem RpA.snoc {ds : List PyData} {vs : List V} {v : V} {d : PyData} (h : RpA W H vs ds) (k : Rp W H v d) : RpA W H (vs ++ [v]) (ds ++ [d]) := h.app (.cons k .nil)
theorem RpA.take : ∀ (n : Nat) {ds : List PyData} {vs : List V}, RpA W H vs ds → RpA W H (vs.take n) (ds.take n)
  | 0, _, _, _ => by simp; exact .nil
  | n + 1, [], _, h => by rw [h.nil_]; simp; exact .nil
  | n + 1, d :: ds, _, h => by
    obtain ⟨v, r, rfl, h1, h⟩ := h.cons_
    exact .cons h1 (h.take n)
theorem RpA.drop : ∀ (n : Nat) {ds : List PyData} {vs : List V}, RpA W H vs ds → RpA W H (vs.drop n) (ds.drop n)
  | 0, _, _, h => h
  | n + 1, [], _, h => by rw [h.nil_]; simp; exact .nil
  | n + 1, d :: ds, _, h => by
    obtain ⟨v, r, rfl, h1, h⟩ := h.cons_
    exact h.drop n
theorem RpA.rev : ∀ {ds : List PyData} {vs : List V}, RpA W H vs ds → RpA W H vs.reverse ds.reverse
  | [], _, h => by rw [h.nil_]; exact .nil
  | d :: ds, _, h => by
    obtain ⟨v, r, rfl, h1, h⟩ := h.cons_
    rw [List.reverse_cons, List.reverse_cons]
    exact h.rev.snoc h1
theorem RpA.ints_ : ∀ {l : List Int} {vs : List V}, RpA W H vs (l.map .int) → vs = l.map V.int
  | [], _, h => h.nil_
  | x :: l, _, h => by
    obtain ⟨v, r, rfl, h1, h⟩ := h.cons_
    rw [h1.int_, h.ints_]; rfl
theorem RpA.ints : ∀ (l : List Int), RpA W H (l.map V.int) (l.map .int)
  | [] => .nil
  | x :: l => .cons (.int x) (RpA.ints l)
theorem RpA.strs_ : ∀ {l : List Str} {vs : List V}, RpA W H vs (l.map .str) → vs = l.map V.str
  | [], _, h => h.nil_
  | x :: l, _, h => by
    obtain ⟨v, r, rfl, h1, h⟩ := h.cons_
    rw [h1.str_, h.strs_]; rfl
theorem RpA.strs : ∀ (l : List Str), RpA W H (l.map V.str) (l.map .str)
  | [] => .nil
  | x :: l => .cons (.str x) (RpA.strs l)
end
/-- data of ints -/
abbrev dI (l : List Int) : PyData := .list (l.map PyData.int)
theorem Rp.ints_ {W : Addr → Prop} {H : Hp} {v : V} {l : List Int} (h : Rp W H v (dI l)) : ∃ a, v = .ref a ∧ H a = some (.lst (l.map V.int)) ∧ ¬ W a := by
  obtain ⟨a, xs, rfl, e, n, r⟩ := h.list_
  rw [r.ints_] at e
  exact ⟨a, rfl, e, n⟩
theorem Rp.ints {W : Addr → Prop} {H : Hp} {a : Addr} {l : List Int} (h : H a = some (.lst (l.map V.int))) (n : ¬ W a) : Rp W H (.ref a) (dI l) := .lst h n (RpA.ints l)
/-! ### data that Python tells apart as we do -/
mutual
def pl : PyData → Bool
  | .none => true
  | .int _ => true
  | .str x => (PyData.str x).canLay0
  | .bool _ => false
  | .dict _ => false
  | .list ds => plA ds
  | .tuple ds => plA ds
def plA : List PyData → Bool
  | [] => true
  | d :: ds => pl d && plA ds
end
mutual
theorem eqv_iff : ∀ (d e : PyData), pl d = true → pl e = true → (PyData.eqv d e = true ↔ d = e)
  | .none, e, _, _ => by cases e <;> simp [PyData.eqv]
  | .int i, e, _, h => by cases e <;> simp [PyData.eqv] <;> simp [pl] at h
  | .str i, e, _, _ => by cases e <;> simp [PyData.eqv]
  | .bool _, _, h, _ => by simp [pl] at h
  | .dict _, _, h, _ => by simp [pl] at h
  | .list ds, e, h, k => by
    cases e <;> simp [PyData.eqv]
    exact eqvA_iff ds _ (by simpa [pl] using h) (by simpa [pl] using k)
  | .tuple ds, e, h, k => by
    cases e <;> simp [PyData.eqv]
    exact eqvA_iff ds _ (by simpa [pl] using h) (by simpa [pl] using k)
theorem eqvA_iff : ∀ (ds es : List PyData), plA ds = true → plA es = true → (PyData.eqvAll ds es = true ↔ ds = es)
  | [], es, _, _ => by cases es <;> simp [PyData.eqvAll]
  | d :: ds, es, h, k => by
    cases es with
    | nil => simp [PyData.eqvAll]
    | cons e es =>
      rw [plA, Bool.and_eq_true] at h k
      simp only [PyData.eqvAll, Bool.and_eq_true, List.cons.injEq]
      rw [eqv_iff d e h.1 k.1, eqvA_iff ds es h.2 k.2]
end
theorem plA_mem : ∀ {ds : List PyData}, plA ds = true ↔ ∀ d ∈ ds, pl d = true
  | [] => by simp [plA]
  | d :: ds => by simp [plA, plA_mem (ds := ds)]
theorem plA_map {α : Type} {f : α → PyData} {l : List α} (h : ∀ x, pl (f x) = true) : plA (l.map f) = true := plA_mem.mpr fun d hd => by
  obtain ⟨x, _, rfl⟩ := List.mem_map.mp hd
  exact h x
open Classical in
theorem eqv_dec {d e : PyData} (h : pl d = true) (k : pl e = true) : PyData.eqv d e = decide (d = e) := by
  by_cases z : d = e
  · rw [decide_eq_true z]; exact (eqv_iff d e h k).mpr z
  · rw [decide_eq_false z]
    cases q : PyData.eqv d e with
    | false => rfl
    | true => exact absurd ((eqv_iff d e h k).mp q) z
theorem eqv_inj {α : Type} [DecidableEq α] {f : α → PyData} (hp : ∀ x, pl (f x) = true) (inj : ∀ x y, f x = f y → x = y) (a b : α) : PyData.eqv (f a) (f b) = decide (a = b) := by
  by_cases z : a = b
  · subst z; rw [decide_eq_true rfl]; exact (eqv_iff _ _ (hp _) (hp _)).mpr rfl
  · rw [decide_eq_false z]
    cases q : PyData.eqv (f a) (f b) with
    | false => rfl
    | true => exact absurd (inj _ _ ((eqv_iff _ _ (hp _) (hp _)).mp q)) z
mutual
theorem lay_pl : ∀ d : PyData, pl d = true → d.canLay0 = true
  | .none, _ => rfl
  | .int _, _ => rfl
  | .str _, h => by simpa [pl] using h
  | .bool _, h => by simp [pl] at h
  | .dict _, h => by simp [pl] at h
  | .list ds, h => by simp only [PyData.canLay0]; exact layA_pl ds (by simpa [pl] using h)
  | .tuple ds, h => by simp only [PyData.canLay0]; exact layA_pl ds (by simpa [pl] using h)
theorem layA_pl : ∀ ds : List PyData, plA ds = true → PyData.canLayAll0 ds = true
  | [], _ => by simp [PyData.canLayAll0]
  | d :: ds, h => by
    rw [plA, Bool.and_eq_true] at h
    simp [PyData.canLayAll0, lay_pl d h.1, layA_pl ds h.2]
end
theorem sh_pl {d : PyData} (h : pl d = true) (k : d.depth ≤ 64) : SeqAt.shaped d = true := by
  show (d.canLay0 && decide (d.depth ≤ 64)) = true
  rw [Bool.and_eq_true]
  exact ⟨lay_pl d h, decide_eq_true k⟩
theorem depthA_le {n : Nat} : ∀ {ds : List PyData}, (∀ d ∈ ds, d.depth ≤ n) → PyData.depthAll ds ≤ n
  | [], _ => by simp [PyData.depthAll]
  | d :: ds, h => by
    have h1 := h d List.mem_cons_self
    have h2 := depthA_le fun x hx => h x (List.mem_cons_of_mem _ hx)
    simp only [PyData.depthAll]; omega
theorem depth_list {n : Nat} {ds : List PyData} (h : ∀ d ∈ ds, d.depth ≤ n) : (PyData.list ds).depth ≤ n + 1 := by
  have := depthA_le h
  simp only [PyData.depth]; omega
theorem depth_tup {n : Nat} {ds : List PyData} (h : ∀ d ∈ ds, d.depth ≤ n) : (PyData.tuple ds).depth ≤ n + 1 := by
  have := depthA_le h
  simp only [PyData.depth]; omega
theorem depth_ints (l : List Int) : (PyData.list (l.map PyData.int)).depth ≤ 64 := by
  have := depth_list (n := 1) (ds := l.map PyData.int) fun d hd => by
    obtain ⟨x, _, rfl⟩ := List.mem_map.mp hd
    simp [PyData.depth]
  omega
theorem pl_ints (l : List Int) : pl (.list (l.map PyData.int)) = true := by
  show plA _ = true
  exact plA_map fun x => rfl
theorem sh_ints (l : List Int) : SeqAt.shaped (.list (l.map PyData.int)) = true := sh_pl (pl_ints l) (depth_ints l)
section
variable {W : Addr → Prop} {H : Hp} {K : PySem.W.Frag} {P : Program} {w : World} {Q : VK} {x y : V} {d e : PyData}
theorem v_eqV (h1 : Rp W H x d) (h2 : Rp W H y e) (s1 : SeqAt.shaped d = true) (s2 : SeqAt.shaped e = true) (k : Q (.bl (PyData.eqv d e)) H) : cEq K x y H Q := .inr ⟨d, e, Rp.dp _ _ h1, Rp.dp _ _ h2, s1, s2, k⟩
theorem v_neV (h1 : Rp W H x d) (h2 : Rp W H y e) (s1 : SeqAt.shaped d = true) (s2 : SeqAt.shaped e = true) (k : Q (.bl (!PyData.eqv d e)) H) : cNe K x y H Q := .inr ⟨d, e, Rp.dp _ _ h1, Rp.dp _ _ h2, s1, s2, k⟩
theorem v_inV {ds : List PyData} (h1 : Rp W H x d) (h2 : Rp W H y (.list ds)) (s1 : SeqAt.shaped d = true) (s2 : SeqAt.shaped (.list ds) = true) (k : Q (.bl (ds.any fun z => PyData.eqv z d)) H) : cIn P w K x y H Q := .inr (.inl ⟨d, ds, Rp.dp _ _ h1, Rp.dp _ _ h2, s1, s2, k⟩)
theorem v_ninV {ds : List PyData} (h1 : Rp W H x d) (h2 : Rp W H y (.list ds)) (s1 : SeqAt.shaped d = true) (s2 : SeqAt.shaped (.list ds) = true) (k : Q (.bl (!ds.any fun z => PyData.eqv z d)) H) : cNotIn P w K x y H Q := .inr (.inl ⟨d, ds, Rp.dp _ _ h1, Rp.dp _ _ h2, s1, s2, k⟩)
end
/-! ### len(set(..)) -/
def kLenS (w : World) : List V → Hp → VK → Prop := fun xs H Q => ∃ (a : Addr) (S : Int → Bool) (n : Nat), xs = [.ref a] ∧ H a = some (SetO w a S n) ∧ ∀ es : List Int, es.Nodup → (∀ z : Int, S z = true ↔ z ∈ es) → es.length = n → Q (.int n) H
theorem k_lenS {X : Cx} : CallR X (.builtin "len") (kLenS X.w) := by
  intro pins s σ H xs us Q I r h
  obtain ⟨a, S, n, rfl, ha, q⟩ := h
  obtain ⟨o, es, ep, t, ho, hex, hd, good, nd, mem, few, fits, num, _⟩ := setO_get I ha
  rw [Vals.ref1 r]
  have hs : scanBound = 4096 := rfl
  refine call_len_set ho hex hd fits (by omega) ?_
  rw [num]
  exact ⟨.int n, H, (I.tok _).tok _, ⟨_, rfl⟩, q (es.toList.map keyOf) nd mem (by rw [List.length_map, Array.length_toList]; exact num)⟩
theorem v_lenS {w : World} {a : Addr} {ns : List Int} {n : Nat} {H : Hp} {Q : VK} (h : H a = some (SetO w a (fun j => decide (j ∈ ns)) n)) (k : ∀ es : List Int, es.Nodup → (∀ z : Int, z ∈ es ↔ z ∈ ns) → Q (.int es.length) H) : kLenS w [.ref a] H Q :=
  ⟨a, _, n, rfl, h, fun es nd m l => l ▸ k es nd fun z => by rw [← m z, decide_eq_true_iff]⟩
/-! ### what is new is none of what changes -/
def Al (W : Addr → Prop) (H : Hp) : Prop := ∀ x, H x = none → ¬ W x
theorem Al.same {W : Addr → Prop} {H H' : Hp} (a : Al W H) (k : Keep Nil H H') : Al W H' := fun x hx => a x (keep_none k hx)
theorem Al.nil {H : Hp} : Al Nil H := fun _ _ z => z
theorem Al.or {W V : Addr → Prop} {H : Hp} (a : Al W H) (b : Al V H) : Al (fun x => W x ∨ V x) H := fun x hx z => z.elim (a x hx) (b x hx)
theorem Al.one {W : Addr → Prop} {H : Hp} {p : Addr} {o : HO} (a : Al W H) (h : H p = some o) : Al (fun x => W x ∨ x = p) H := fun x hx z => z.elim (a x hx) fun e => by rw [e, h] at hx; cases hx
/-! ### walks -/
/-- the walk J yields the data ds, whatever of W changes -/
structure Yv (W : Addr → Prop) (J : It) (H0 : Hp) (ds : List PyData) : Prop where
  go : ∀ (H : Hp) (i : Nat), Keep W H0 H → i < ds.length → J.go i H
  stop : ∀ (H : Hp), Keep W H0 H → J.stop ds.length H
  yld : ∀ (H H' : Hp) (i : Nat) (x : V) (d : PyData), Keep W H0 H → ds[i]? = some d → J.yld i H x H' → Keep Nil H H' ∧ Rp W H' x d
theorem Yv.more {W W' : Addr → Prop} {J : It} {H0 H1 : Hp} {ds : List PyData} (y : Yv W J H0 ds) (k : Keep W H0 H1) : Yv W J H1 ds :=
  ⟨fun H i q => y.go H i (k.trans q), fun H q => y.stop H (k.trans q), fun H H' i x d q => y.yld H H' i x d (k.trans q)⟩
theorem yv_list {W : Addr → Prop} {K : PySem.W.Frag} {H : Hp} {a : Addr} {xs : List V} {ds : List PyData} (h : H a = some (.lst xs)) (n : ¬ W a) (r : RpA W H xs ds) : Yv W (Itl K a) H ds := by
  refine ⟨fun H1 i k hi => ⟨xs, xs[i]'(by rw [r.len]; exact hi), SqL.of (k _ _ n h), List.getElem?_eq_getElem _⟩, fun H1 k => ⟨xs, SqL.of (k _ _ n h), by rw [r.len]; exact Nat.le_refl _⟩, fun H1 H2 i x d k e y => ?_⟩
  obtain ⟨rfl, y⟩ := y
  obtain ⟨v, e1, e2⟩ := r.at_ e
  have := y xs (SqL.of (k _ _ n h))
  rw [e1] at this; cases this
  exact ⟨Keep.refl, e2.keep k⟩
theorem yv_tup {W : Addr → Prop} {K : PySem.W.Frag} {H : Hp} {a : Addr} {xs : List V} {ds : List PyData} (h : H a = some (.tup xs)) (n : ¬ W a) (r : RpA W H xs ds) : Yv W (Itt K a) H ds := by
  refine ⟨fun H1 i k hi => ⟨xs, xs[i]'(by rw [r.len]; exact hi), SqT.of (k _ _ n h), List.getElem?_eq_getElem _⟩, fun H1 k => ⟨xs, SqT.of (k _ _ n h), by rw [r.len]; exact Nat.le_refl _⟩, fun H1 H2 i x d k e y => ?_⟩
  obtain ⟨rfl, y⟩ := y
  obtain ⟨v, e1, e2⟩ := r.at_ e
  have := y xs (SqT.of (k _ _ n h))
  rw [e1] at this; cases this
  exact ⟨Keep.refl, e2.keep k⟩
def rng (lo : Int) (n : Nat) : List PyData := (List.range n).map fun i => PyData.int (lo + (i : Nat))
theorem rng_len (lo : Int) (n : Nat) : (rng lo n).length = n := by unfold rng; rw [List.length_map, List.length_range]
theorem rng_get {lo : Int} {n i : Nat} {d : PyData} (h : (rng lo n)[i]? = some d) : i < n ∧ d = .int (lo + (i : Nat)) := by
  have hi : i < n := by have := (List.getElem?_eq_some_iff.mp h).1; rw [rng_len] at this; exact this
  unfold rng at h
  rw [List.getElem?_map, List.getElem?_range hi] at h
  exact ⟨hi, by simpa using h.symm⟩
theorem yv_rng {W : Addr → Prop} {H : Hp} {lo : Int} {n : Nat} : Yv W (Itr lo n) H (rng lo n) := by
  refine ⟨fun H1 i k hi => by rw [rng_len] at hi; exact hi, fun H1 k => by rw [rng_len]; exact Nat.le_refl _, fun H1 H2 i x d k e y => ?_⟩
  obtain ⟨rfl, rfl⟩ := y
  obtain ⟨_, rfl⟩ := rng_get e
  exact ⟨Keep.refl, .int _⟩
def signs (x : Str) : List PyData := x.cps.toList.map fun c => PyData.str ⟨#[c]⟩
theorem yv_str {W : Addr → Prop} {H : Hp} {x : Str} : Yv W (Its x) H (signs x) := by
  have len : (signs x).length = x.cps.size := by unfold signs; rw [List.length_map, Array.length_toList]
  refine ⟨fun H1 i k hi => by rw [len] at hi; exact hi, fun H1 k => by rw [len]; exact Nat.le_refl _, fun H1 H2 i v d k e y => ?_⟩
  obtain ⟨rfl, c, hc, rfl⟩ := y
  unfold signs at e
  rw [List.getElem?_map, Array.getElem?_toList, hc] at e
  cases e
  exact ⟨Keep.refl, .str _⟩
section
variable {J : It} {g : TG} {tt : TT} {te : TE} {vs : List Nat} {σ : L2.St} {H : Hp} {Q : VK}
/-- a comprehension that reads and makes new things alone -/
theorem lcT {α : Type} (W : Addr → Prop) (enc : α → PyData) (l : List α) (p : α → Bool) (f : α → PyData) (al : Al W H) (few : l.length < sizeLine) (Y : ∀ D, H D = none → Yv (fun x => W x ∨ x = D) J H (l.map enc))
    (body : ∀ (D : Addr) (i : Nat) (x : V) (d : α) (H1 : Hp) (R : VK) (N : Hp → Prop), H D = none → l[i]? = some d → Keep Nil H H1 → Al (fun x => W x ∨ x = D) H1 → Rp (fun x => W x ∨ x = D) H1 x (enc d) →
      (∀ y H4, Keep Nil H1 H4 → Rp (fun x => W x ∨ x = D) H4 y (f d) → p d = true → R y H4) → (∀ H3, Keep Nil H1 H3 → p d = false → N H3) →
      g x (wipe σ vs) H1 fun σ2 H2 => wipe σ2 vs = wipe σ vs ∧ tt σ2 H2 fun b H3 => if b = true then te σ2 H3 R else N H3)
    (cont : ∀ (D : Addr) (H' : Hp), H D = none → Keep Nil H H' → Rp W H' (.ref D) (.list ((l.filter p).map f)) → Q (.ref D) H') : kLc J g tt te vs σ H Q := by
  intro D hD
  refine ⟨fun i m H' => m = l.length - i ∧ i ≤ l.length ∧ ∃ us, H' D = some (.lst us) ∧ RpA (fun x => W x ∨ x = D) H' us (((l.take i).filter p).map f) ∧ Keep Nil H H', ⟨_, rfl, Nat.zero_le _, [], upd_same, by simp; exact .nil, Keep.alloc hD⟩, ?_⟩
  rintro i m H1 ⟨rfl, hi, us, eD, ru, k1⟩
  have nD : ¬ W D := al D hD
  by_cases lt : i < l.length
  · refine .inr ⟨(Y D hD).go H1 i k1.weak (by rw [List.length_map]; exact lt), fun H' => ∃ us, H' D = some (.lst us) ∧ RpA (fun x => W x ∨ x = D) H' us (((l.take (i + 1)).filter p).map f) ∧ Keep Nil H H', fun H' h => ⟨l.length - (i + 1), by omega, rfl, lt, h⟩, fun x H2 hy => ?_⟩
    have hd := List.getElem?_eq_getElem lt
    obtain ⟨k2, rx⟩ := (Y D hD).yld H1 H2 i x (enc l[i]) k1.weak (by rw [List.getElem?_map, hd]; rfl) hy
    have k12 := k1.trans k2
    have eD2 := k2.get (fun z => z) eD
    have tk : l.take (i + 1) = l.take i ++ [l[i]] := by rw [List.take_succ, hd]; rfl
    refine body D i x _ H2 _ _ hD hd k12 ((al.same k12).one eD2) rx (fun y H5 k5 r5 hp => ?_) fun H4 k4 hp => ?_
    · have eD5 := k5.get (fun z => z) eD2
      have ru5 := ru.same (k2.trans k5)
      have kD : Keep (fun x => W x ∨ x = D) H5 (upd H5 D (.lst (us ++ [y]))) := Keep.refl.set (.inr rfl)
      refine ⟨us, eD5, ?_, us ++ [y], upd_same, ?_, (k12.trans k5).setN hD⟩
      · have h1 := ru.len
        have h2 := List.length_filter_le p (l.take i)
        rw [List.length_map] at h1
        rw [List.length_take] at h2
        omega
      · rw [tk, List.filter_append, List.map_append]
        have : [l[i]].filter p = [l[i]] := by simp [hp]
        rw [this]
        exact (ru5.keep kD).snoc (r5.keep kD)
    · refine ⟨us, k4.get (fun z => z) eD2, ?_, k12.trans k4⟩
      rw [tk, List.filter_append, List.map_append]
      have : [l[i]].filter p = [] := by simp [hp]
      rw [this, List.map_nil, List.append_nil]
      exact ru.same (k2.trans k4)
  · have e : i = l.length := by omega
    subst e
    rw [List.take_of_length_le (Nat.le_refl _)] at ru
    have st := (Y D hD).stop H1 k1.weak
    rw [List.length_map] at st
    exact .inl ⟨st, cont D H1 hD k1 (.lst eD nD (ru.sub fun x h => .inl h))⟩
theorem filter_tt {α : Type} (l : List α) : (l.filter fun _ => true) = l := by simp
/-- a comprehension that changes W, by what is told of S; without a test -/
theorem lcS (W : Addr → Prop) (ds : List PyData) (S : Nat → List PyData → Hp → Prop) (few : ds.length < sizeLine) (al : Al W H) (Y : ∀ D, H D = none → Yv (fun x => W x ∨ x = D) J H ds)
    (als : ∀ i out H1, S i out H1 → Al W H1)
    (S0 : S 0 [] H) (stab : ∀ D i out H1 H2, H D = none → Keep (fun x => x = D) H1 H2 → (∀ o, H1 D = some o → ∃ l, o = .lst l) → S i out H1 → S i out H2)
    (body : ∀ (D : Addr) (i : Nat) (x : V) (d : PyData) (out : List PyData) (H1 : Hp) (R : VK) (N : Hp → Prop), H D = none → ds[i]? = some d → out.length = i → Keep W H H1 → Al (fun x => W x ∨ x = D) H1 → Rp (fun x => W x ∨ x = D) H1 x d → S i out H1 →
      (∀ y H4 e, Keep W H1 H4 → Rp (fun x => W x ∨ x = D) H4 y e → S (i + 1) (out ++ [e]) H4 → R y H4) →
      g x (wipe σ vs) H1 fun σ2 H2 => wipe σ2 vs = wipe σ vs ∧ tYes σ2 H2 fun b H3 => if b = true then te σ2 H3 R else N H3)
    (cont : ∀ (D : Addr) (H' : Hp) (out : List PyData), H D = none → out.length = ds.length → Keep W H H' → S ds.length out H' → Rp W H' (.ref D) (.list out) → Q (.ref D) H') : kLc J g tYes te vs σ H Q := by
  intro D hD
  have nD : ¬ W D := al D hD
  refine ⟨fun i m H' => m = ds.length - i ∧ i ≤ ds.length ∧ ∃ us out, H' D = some (.lst us) ∧ out.length = i ∧ RpA (fun x => W x ∨ x = D) H' us out ∧ Keep W H H' ∧ S i out H',
    ⟨_, rfl, Nat.zero_le _, [], [], upd_same, rfl, .nil, Keep.alloc hD, stab D 0 [] H _ hD (Keep.refl.set rfl) (fun o e => by rw [hD] at e; cases e) S0⟩, ?_⟩
  rintro i m H1 ⟨rfl, hi, us, out, eD, lo, ru, k1, s1⟩
  by_cases lt : i < ds.length
  · refine .inr ⟨(Y D hD).go H1 i (k1.mono fun _ h => .inl h) lt, fun H' => ∃ us out, H' D = some (.lst us) ∧ out.length = i + 1 ∧ RpA (fun x => W x ∨ x = D) H' us out ∧ Keep W H H' ∧ S (i + 1) out H', fun H' h => ⟨ds.length - (i + 1), by omega, rfl, lt, h⟩, fun x H2 hy => ?_⟩
    have hd := List.getElem?_eq_getElem lt
    obtain ⟨k2, rx⟩ := (Y D hD).yld H1 H2 i x _ (k1.mono fun _ h => .inl h) hd hy
    have k12 := k1.trans k2.weak
    have eD2 := k2.get (fun z => z) eD
    have s2 := stab D i out H1 H2 hD k2.weak (fun o e => by rw [eD] at e; exact ⟨_, (Option.some.inj e).symm⟩) s1
    refine body D i x _ out H2 _ _ hD hd lo k12 ((als _ _ _ s2).one eD2) rx s2 fun y H5 e k5 r5 s5 => ?_
    have eD5 := k5 _ _ nD eD2
    have ru2 := ru.same k2
    have kD : Keep (fun x => x = D) H5 (upd H5 D (.lst (us ++ [y]))) := Keep.refl.set rfl
    have kW : Keep (fun x => W x ∨ x = D) H5 (upd H5 D (.lst (us ++ [y]))) := kD.mono fun _ h => .inr h
    refine ⟨us, eD5, ?_, us ++ [y], out ++ [e], upd_same, by rw [List.length_append, lo]; rfl, ?_, (k12.trans k5).setN hD, stab D _ _ _ _ hD kD (fun o q => by rw [eD5] at q; exact ⟨_, (Option.some.inj q).symm⟩) s5⟩
    · have h1 := ru.len
      omega
    · exact ((ru2.keep (k5.mono fun _ h => .inl h)).keep kW).snoc (r5.keep kW)
  · have e : i = ds.length := by omega
    subst e
    exact .inl ⟨(Y D hD).stop H1 (k1.mono fun _ h => .inl h), cont D H1 out hD lo k1 s1 (.lst eD nD (ru.sub fun x h => .inl h))⟩
end
end Hm

namespace Hm
open PySem L2
/-! F3m: the reading's steps. kaf_suf: one step; kaf_pre: what stands at an address; tlg_ne: two addresses differ. -/
local macro_rules | `(tactic| tlg_ne) => `(tactic| first
  | with_reducible assumption
  | with_reducible exact Ne.symm (by assumption)
  | (refine' ne_old (by assumption) ?a; (case a => (kaf_pre; done)))
  | (refine' ne_new (by assumption) ?a; (case a => (kaf_pre; done)))
  | fail "tlg_ne")
local macro_rules | `(tactic| kaf_pre) => `(tactic| first
  | with_reducible assumption
  | ((with_reducible refine' upd_at ?a); (case a => rfl))
  | ((first
      | (with_reducible refine' get_new (by assumption) ?b)
      | ((with_reducible refine' get_set ?a ?b); (case a => (tlg_ne; done)))
      | ((with_reducible refine' Keep.get (by assumption) ?a ?b); (case a => (first | assumption | (intro z; exact z.elim) | fail "kaf_pre")))
      | fail "kaf_pre"); (case b => (kaf_pre; done)))
  | ((fail_if_success (with_reducible refine' is_upd ?_)); assumption)
  | ((with_reducible refine' get_setK ?a ?b ?e); (case a => (kaf_pre; done)); (case b => (kaf_pre; done)); (case e => (intro z; cases z; done)))
  | fail "kaf_pre")
local macro_rules | `(tactic| isplit) => `(tactic| first
  | assumption
  | ((with_reducible refine' seq_new (by assumption) ?a); (case a => (isplit; done)))
  | ((with_reducible refine' seq_keep (by assumption) ?a); (case a => (isplit; done))))
local macro_rules | `(tactic| kaf_suf) => `(tactic| first
  | with_reducible refine r_seq ?_
  | with_reducible refine r_asg ?_
  | ((with_reducible refine' r_var ?a ?_); (case a => rfl))
  | with_reducible refine r_c ?_
  | with_reducible refine r_gname ?_
  | with_reducible refine r_op ?_
  | with_reducible refine r_cons ?_
  | with_reducible refine r_nil ?_
  | with_reducible refine r_cb ?_
  | with_reducible refine r_call ?_
  | with_reducible refine r_meth ?_
  | with_reducible refine r_fld ?_
  | with_reducible refine r_if ?_
  | with_reducible refine r_test ?_
  | with_reducible refine r_kB ?_
  | with_reducible refine r_ite_tt ?_
  | with_reducible refine r_ite_ff ?_
  | with_reducible refine r_ite_nt ?_
  | with_reducible refine r_ite_nf ?_
  | ((with_reducible refine' r_iteT' ?a ?_); (case a => first | assumption | rfl | omega))
  | ((with_reducible refine' r_iteF' ?a ?_); (case a => first | assumption | omega))
  | ((with_reducible refine' r_iteNT' ?a ?_); (case a => first | assumption | omega))
  | ((with_reducible refine' r_iteNF' ?a ?_); (case a => first | assumption | rfl | omega))
  | with_reducible refine r_next ?_
  | with_reducible refine r_nx ?_
  | with_reducible refine r_rt ?_
  | with_reducible refine r_bk ?_
  | with_reducible refine r_ct ?_
  | with_reducible refine r_drop ?_
  | with_reducible refine r_ret ?_
  | with_reducible refine v_add ?_
  | with_reducible refine v_sub ?_
  | with_reducible refine v_eq ?_
  | with_reducible refine v_ne ?_
  | with_reducible refine v_lt ?_
  | with_reducible refine v_le ?_
  | with_reducible refine v_gt ?_
  | with_reducible refine v_ge ?_
  | ((with_reducible refine' v_mod ?a ?_); (case a => first | assumption | decide | omega))
  | ((with_reducible refine' v_mul ?a ?_); (case a => first | assumption | decide | omega))
  | ((with_reducible refine' v_div ?a ?_); (case a => first | assumption | decide | omega))
  | ((with_reducible refine' v_pow ?a ?_); (case a => exact ⟨by decide, by decide, by decide⟩))
  | ((with_reducible refine' v_ixL ?a ?b ?_); (case a => (kaf_pre; done)); (case b => (first | assumption | rfl)))
  | ((with_reducible refine' v_ixT ?a ?b ?_); (case a => (kaf_pre; done)); (case b => (first | assumption | rfl)))
  | ((with_reducible refine' v_lenL ?a ?_); (case a => (kaf_pre; done)))
  | ((with_reducible refine' v_lenT ?a ?_); (case a => (kaf_pre; done)))
  | ((with_reducible refine' v_lenK ?a ?_); (case a => (isplit; done)))
  | ((with_reducible refine' v_ixK ?a ?b ?_); (case a => (isplit; done)); (case b => (first | assumption | rfl)))
  | ((with_reducible refine' v_append ?a ?b ?_); (case a => (kaf_pre; done)); (case b => first | assumption | exact few1 (by simp; omega)))
  | ((with_reducible refine' r_krng1 ?a ?_); (case a => first | assumption | decide | omega))
  | with_reducible refine v_int ?_
  | with_reducible refine v_intB ?_
  | with_reducible refine v_max ?_
  | with_reducible refine v_min ?_
  | with_reducible refine r_and ?_
  | with_reducible refine r_or ?_
  | with_reducible refine r_not ?_
  | with_reducible refine r_tup ?_
  | with_reducible refine r_lst ?_
  | ((with_reducible refine' r_ktup ?a ?_); (case a => (simp; done)))
  | ((with_reducible refine' r_klst ?a ?_); (case a => (simp; done)))
  | with_reducible refine r_bm ?_
  | with_reducible refine r_bm0 ?_
  | ((with_reducible refine' r_kbm_l ?a ?_); (case a => (kaf_pre; done)))
  | with_reducible refine r_gsub ?_
  | ((with_reducible refine' v_setL ?a ?b ?_); (case a => (kaf_pre; done)); (case b => first | assumption | rfl))
  | with_reducible refine r_sfld ?_
  | with_reducible refine r_make ?_
  | with_reducible refine r_for ?_
  | with_reducible refine r_rng1 ?_
  | with_reducible refine r_iany ?_
  | ((with_reducible refine' r_kiterL ?a ?_); (case a => (kaf_pre; done)))
  | ((with_reducible refine' r_kiterT ?a ?_); (case a => (kaf_pre; done)))
  | with_reducible refine r_lc ?_
  | with_reducible refine r_yes ?_
  | with_reducible refine r_chain ?_
  | with_reducible refine r_andV ?_
  | with_reducible refine r_orV ?_
  | with_reducible refine r_notV ?_
  | with_reducible refine r_tru ?_
  | with_reducible refine r_tru_bl ?_
  | with_reducible refine r_un ?_
  | with_reducible refine r_rU ?_
  | with_reducible refine r_sl ?_
  | with_reducible refine r_nopart ?_
  | with_reducible refine r_part ?_
  | with_reducible refine r_kI ?_
  | with_reducible refine r_rev ?_
  | with_reducible refine r_lstRg1 ?_
  | with_reducible refine r_krg ?_
  | with_reducible refine v_isN ?_
  | with_reducible refine v_notN ?_
  | with_reducible refine v_isB ?_
  | with_reducible refine v_notB ?_
  | with_reducible refine v_eqS ?_
  | with_reducible refine v_neS ?_
  | ((with_reducible refine' v_isiI ?a ?_); (case a => first | with_reducible exact kit_int_int | with_reducible exact kit_int_bool | with_reducible exact kit_int_list | with_reducible exact kit_int_tuple | with_reducible exact kit_int_str))
  | ((with_reducible refine' v_isiB ?a ?_); (case a => first | with_reducible exact kit_bool_int | with_reducible exact kit_bool_bool | with_reducible exact kit_bool_list | with_reducible exact kit_bool_tuple | with_reducible exact kit_bool_str))
  | ((with_reducible refine' v_isiS ?a ?_); (case a => first | with_reducible exact kit_str_int | with_reducible exact kit_str_bool | with_reducible exact kit_str_list | with_reducible exact kit_str_tuple | with_reducible exact kit_str_str))
  | ((with_reducible refine' v_isiL ?a ?b ?_); (case a => (kaf_pre; done)); (case b => first | with_reducible exact kit_list_int | with_reducible exact kit_list_bool | with_reducible exact kit_list_list | with_reducible exact kit_list_tuple | with_reducible exact kit_list_str))
  | ((with_reducible refine' v_isiT ?a ?b ?_); (case a => (kaf_pre; done)); (case b => first | with_reducible exact kit_tuple_int | with_reducible exact kit_tuple_bool | with_reducible exact kit_tuple_list | with_reducible exact kit_tuple_tuple | with_reducible exact kit_tuple_str))
  | with_reducible refine r_brk ?_
  | with_reducible refine r_cont ?_
  | with_reducible refine r_par ?_
  | with_reducible refine r_par2 ?_
  | with_reducible refine v_abs ?_
  | ((with_reducible refine' v_listL ?a ?_); (case a => (kaf_pre; done)))
  | ((with_reducible refine' v_listT ?a ?_); (case a => (kaf_pre; done)))
  | ((with_reducible refine' v_set ?a ?b ?_); (case a => (kaf_pre; done)); (case b => first | assumption | omega | (simp; omega)))
  | ((with_reducible refine' v_sortedS ?a ?_); (case a => (kaf_pre; done)))
  | ((with_reducible refine' v_sortedL ?a ?_); (case a => (kaf_pre; done)))
  | ((with_reducible refine' v_tupleL ?a ?_); (case a => (kaf_pre; done)))
  | ((with_reducible refine' v_addL ?a ?b ?e ?_); (case a => (kaf_pre; done)); (case b => (kaf_pre; done)); (case e => first | assumption | exact few2 (by simp; omega)))
  | ((with_reducible refine' v_addT ?a ?b ?e ?_); (case a => (kaf_pre; done)); (case b => (kaf_pre; done)); (case e => first | assumption | exact few2 (by simp; omega))))

def top (i : Nat) : Stmt := PySem.Challenge.pw_hotmoves_k05_whole_books_beside.main.body.getD i (.Pass ⟨0, 0, 0, 0⟩)
abbrev s_Book_init : Stmt := inClass (top 4) 0
abbrev s_Book_need : Stmt := inClass (top 4) 1
abbrev s_Book_game : Stmt := inClass (top 4) 2
abbrev s_Book_lefts : Stmt := inClass (top 4) 3
abbrev s_Book_rights : Stmt := inClass (top 4) 4
abbrev s_Book_depth : Stmt := inClass (top 4) 5
abbrev s_Book_many : Stmt := inClass (top 4) 6
abbrev s_law_deck : Stmt := top 6
abbrev s_law_draw : Stmt := top 7
abbrev s_law_moves : Stmt := top 8
abbrev s_law_grown : Stmt := top 9
abbrev s_law_sound : Stmt := top 10
abbrev s_law_moved : Stmt := top 11
abbrev s_law : Stmt := top 12
structure Cn where
  P : Program
  w : World
  K : PySem.W.Frag
  cGameError : Addr
  cNoGame : Addr
  cBook : Addr
structure Txt (c : Cn) (mg : Str → Option Value) : Prop where
  n_bool : mg "bool" = none
  n_int : mg "int" = none
  n_isinstance : mg "isinstance" = none
  n_len : mg "len" = none
  n_list : mg "list" = none
  n_max : mg "max" = none
  n_min : mg "min" = none
  n_range : mg "range" = none
  n_set : mg "set" = none
  n_sorted : mg "sorted" = none
  n_tuple : mg "tuple" = none
  g_GameError : mg "GameError" = some (.ref c.cGameError)
  g_NoGame : mg "NoGame" = some (.ref c.cNoGame)
  g_Book : mg "Book" = some (.ref c.cBook)
  cl_Book : Cls c.K c.cBook
  na_Book_depths : NoAttr c.K c.cBook "depths"
  na_Book_moves : NoAttr c.K c.cBook "moves"
  na_Book_numbers : NoAttr c.K c.cBook "numbers"
  F_Book_init : ∃ (f : Addr) (fd : FuncData), Fun c.K "__init__" "Book.__init__" s_Book_init f fd ∧ Mk c.K c.cBook f ∧ Binds c.K fd ["self"] []
  F_Book_need : ∃ (f : Addr) (fd : FuncData), Fun c.K "need" "Book.need" s_Book_need f fd ∧ Meth c.K c.cBook "need" f ∧ Binds c.K fd ["self", "g"] []
  F_Book_game : ∃ (f : Addr) (fd : FuncData), Fun c.K "game" "Book.game" s_Book_game f fd ∧ Meth c.K c.cBook "game" f ∧ Binds c.K fd ["self", "lefts", "rights"] []
  F_Book_lefts : ∃ (f : Addr) (fd : FuncData), Fun c.K "lefts" "Book.lefts" s_Book_lefts f fd ∧ Meth c.K c.cBook "lefts" f ∧ Binds c.K fd ["self", "g"] []
  F_Book_rights : ∃ (f : Addr) (fd : FuncData), Fun c.K "rights" "Book.rights" s_Book_rights f fd ∧ Meth c.K c.cBook "rights" f ∧ Binds c.K fd ["self", "g"] []
  F_Book_depth : ∃ (f : Addr) (fd : FuncData), Fun c.K "depth" "Book.depth" s_Book_depth f fd ∧ Meth c.K c.cBook "depth" f ∧ Binds c.K fd ["self", "g"] []
  F_Book_many : ∃ (f : Addr) (fd : FuncData), Fun c.K "many" "Book.many" s_Book_many f fd ∧ Meth c.K c.cBook "many" f ∧ Binds c.K fd ["self"] []
  F_law_deck : ∃ (f : Addr) (fd : FuncData), Fun c.K "_law_deck" "_law_deck" s_law_deck f fd ∧ mg "_law_deck" = some (.ref f) ∧ Binds c.K fd ["script"] []
  F_law_draw : ∃ (f : Addr) (fd : FuncData), Fun c.K "_law_draw" "_law_draw" s_law_draw f fd ∧ mg "_law_draw" = some (.ref f) ∧ Binds c.K fd ["deck", "many"] []
  F_law_moves : ∃ (f : Addr) (fd : FuncData), Fun c.K "_law_moves" "_law_moves" s_law_moves f fd ∧ mg "_law_moves" = some (.ref f) ∧ Binds c.K fd ["deck", "many"] []
  F_law_grown : ∃ (f : Addr) (fd : FuncData), Fun c.K "_law_grown" "_law_grown" s_law_grown f fd ∧ mg "_law_grown" = some (.ref f) ∧ Binds c.K fd ["deck", "book", "many"] []
  F_law_sound : ∃ (f : Addr) (fd : FuncData), Fun c.K "_law_sound" "_law_sound" s_law_sound f fd ∧ mg "_law_sound" = some (.ref f) ∧ Binds c.K fd ["book"] []
  F_law_moved : ∃ (f : Addr) (fd : FuncData), Fun c.K "_law_moved" "_law_moved" s_law_moved f fd ∧ mg "_law_moved" = some (.ref f) ∧ Binds c.K fd ["deck", "book", "second"] []
/-! the deck: what is drawn from it is any number -/
abbrev N_law_deck : List Str := ["script", "pools", "k", "cell"]
theorem sc_law_deck : FnScope N_law_deck ["script"] (defScope s_law_deck) := ⟨rfl, rfl, rfl, by decide +kernel, rfl, by decide +kernel, by decide +kernel⟩
def t_law_deck (c : Cn) : TS :=
  (tSeq (tAsg (tLst tNil) (gName 1))
  (tSeq (tFor (iRng1 (tCons (tCB (kMax c.K) (tCons (tC (.int 1)) (tCons (tCB (kMin c.K) (tCons (tC (.int 63)) (tCons (tCB (kLen c.K) (tCons (tVar 0) tNil)) tNil))) tNil))) tNil)) (gName 2)
  (tSeq (tAsg (tC (.int 0)) (gName 3))
  (C8.tCut (tIfS (tTest (tOp (cLt c.K) (tVar 2) (tCB (kLen c.K) (tCons (tVar 0) tNil))))
  (tAsg (tOp (bIx c.P c.w c.K) (tVar 0) (tVar 2)) (gName 3))
  tNext)
  (tDrop (tBM c.K "list" rAppend (tVar 1) (tCons (tLst (tCons (tVar 3) (tCons (tCB kInt (tCons (tOp cGe (tVar 3) (tOp bPow (tC (.int 10)) (tC (.int 18)))) tNil)) (tCons (tOp bMul (tC (.int 31)) (tVar 2)) tNil)))) tNil))))))
  (tRet (tLst (tCons (tVar 1) (tCons (tC (.int 0)) tNil))))))
abbrev N_law_draw : List Str := ["deck", "many", "pool", "found", "number"]
theorem sc_law_draw : FnScope N_law_draw ["deck", "many"] (defScope s_law_draw) := ⟨rfl, rfl, rfl, by decide +kernel, rfl, by decide +kernel, by decide +kernel⟩
def t_law_draw (c : Cn) : TS :=
  (tSeq (tAsg (tOp (bIx c.P c.w c.K) (tOp (bIx c.P c.w c.K) (tVar 0) (tC (.int 0))) (tOp bMod (tOp (bIx c.P c.w c.K) (tVar 0) (tC (.int 1))) (tCB (kLen c.K) (tCons (tOp (bIx c.P c.w c.K) (tVar 0) (tC (.int 0))) tNil)))) (gName 2))
  (tSeq (tAsg (tOp (bAdd c.K) (tOp (bIx c.P c.w c.K) (tVar 0) (tC (.int 1))) (tC (.int 1))) (gSub (tVar 0) (tC (.int 1)) (bSet c.P c.w)))
  (tSeq (tIfS (tAnd (tTest (tOp (cEq c.K) (tOp (bIx c.P c.w c.K) (tVar 2) (tC (.int 1))) (tC (.int 1)))) (tTest (tOp cGt (tOp (bIx c.P c.w c.K) (tVar 2) (tC (.int 0))) (tC (.int 0)))))
  (tSeq (tAsg (tOp bMod (tOp (bIx c.P c.w c.K) (tVar 2) (tC (.int 0))) (tVar 1)) (gName 3))
  (tSeq (tAsg (tOp bDiv (tOp (bIx c.P c.w c.K) (tVar 2) (tC (.int 0))) (tVar 1)) (gSub (tVar 2) (tC (.int 0)) (bSet c.P c.w)))
  (tRet (tVar 3))))
  tNext)
  (tSeq (tAsg (tOp (bAdd c.K) (tOp (bIx c.P c.w c.K) (tVar 2) (tC (.int 2))) (tC (.int 1))) (gSub (tVar 2) (tC (.int 2)) (bSet c.P c.w)))
  (tSeq (tAsg (tOp bMod (tOp (bAdd c.K) (tOp bMod (tOp (bIx c.P c.w c.K) (tVar 2) (tC (.int 0))) (tC (.int 99999999977))) (tOp bMul (tC (.int 700001)) (tOp (bIx c.P c.w c.K) (tVar 2) (tC (.int 2))))) (tC (.int 99999999947))) (gName 4))
  (tSeq (tAsg (tOp bMod (tOp bMul (tVar 4) (tVar 4)) (tC (.int 99999999821))) (gName 4))
  (tSeq (tAsg (tOp bMod (tOp bMul (tVar 4) (tOp (bAdd c.K) (tVar 4) (tC (.int 19)))) (tC (.int 9999999967))) (gName 4))
  (tRet (tOp bMod (tOp bDiv (tVar 4) (tC (.int 13))) (tVar 1))))))))))
structure DeckAt (H : Hp) (d : Addr) (M : Addr → Prop) : Prop where
  ex : ∃ (pl : Addr) (ps : List Addr) (i : Int), H d = some (.lst [.ref pl, .int i]) ∧ 0 ≤ i ∧ H pl = some (.lst (ps.map V.ref)) ∧ ps ≠ [] ∧ d ≠ pl ∧ M d ∧ M pl ∧
    (∀ q ∈ ps, M q ∧ q ≠ d ∧ q ≠ pl ∧ ∃ a b k, H q = some (.lst [.int a, .int b, .int k])) ∧ ∀ x, M x → x = d ∨ x = pl ∨ x ∈ ps
theorem keep_noneM {M : Addr → Prop} {H H' : Hp} {p : Addr} (k : Keep M H H') (n : ¬ M p) (h : H' p = none) : H p = none := by
  cases e : H p with
  | none => rfl
  | some o => rw [k p o n e] at h; cases h
theorem DeckAt.dom {H : Hp} {d : Addr} {M : Addr → Prop} (D : DeckAt H d M) {x : Addr} (h : M x) : H x ≠ none := by
  obtain ⟨pl, ps, i, h1, _, h2, _, _, _, _, h3, h4⟩ := D.ex
  rcases h4 x h with rfl | rfl | hx
  · rw [h1]; simp
  · rw [h2]; simp
  · obtain ⟨_, _, _, a, b, k, e⟩ := h3 x hx
    rw [e]; simp
theorem DeckAt.new {H : Hp} {d : Addr} {M : Addr → Prop} (D : DeckAt H d M) {x : Addr} (h : H x = none) : ¬ M x := fun z => D.dom z h
theorem DeckAt.keep {H H' : Hp} {d : Addr} {M N : Addr → Prop} (D : DeckAt H d M) (k : Keep N H H') (n : ∀ x, M x → ¬ N x) : DeckAt H' d M := by
  obtain ⟨pl, ps, i, h1, h0, h2, hp, ne, m1, m2, h3, h4⟩ := D.ex
  refine ⟨pl, ps, i, k _ _ (n _ m1) h1, h0, k _ _ (n _ m2) h2, hp, ne, m1, m2, fun q hq => ?_, h4⟩
  obtain ⟨m, e1, e2, a, b, c, e⟩ := h3 q hq
  exact ⟨m, e1, e2, a, b, c, k _ _ (n _ m) e⟩
def sp_law_draw (c : Cn) : Sp := fun vs H Q E => vs.length = 2 ∧ ∃ (d : Addr) (m : Int) (M : Addr → Prop), vs = [.ref d, .int m] ∧ 1 ≤ m ∧ m < 1073741824 ∧ DeckAt H d M ∧
  ∀ (H' : Hp) (n : Int), Keep M H H' → DeckAt H' d M → 0 ≤ n → n < m → Q (.int n) H'
theorem atI_get {xs : List V} {i : Int} {v : V} {n : Nat} (h : xs[n]? = some v) (e : i = n) : atI xs i = some v := by
  subst e
  have hn : n < xs.length := (List.getElem?_eq_some_iff.mp h).1
  unfold atI ixN
  rw [if_pos (Int.natCast_nonneg n), if_pos (by omega)]
  simpa using h
theorem p_law_draw {c : Cn} {mg : Str → Option Value} (T : Txt c mg) {vs : List V} {H : Hp} {Q : VK} {E : XK} (h : sp_law_draw c vs H Q E) : t_law_draw c { nx := fun _ H' => Q .non H', rt := Q } (start N_law_draw vs) H := by
  obtain ⟨_, d, m, M, rfl, m1, m2, D, k⟩ := h
  obtain ⟨pl, ps, i, h1, h0, h2, hp, ne, md, mpl, h3, h4⟩ := D.ex
  have hl : (0 : Int) < ps.length := by
    cases ps with
    | nil => exact absurd rfl hp
    | cons _ _ => simp only [List.length_cons]; omega
  have pos : (0 : Int) < (ps.map V.ref).length := by simpa using hl
  obtain ⟨q, hq, hqm⟩ : ∃ q, atI (ps.map V.ref) (i % ((ps.map V.ref).length : Int)) = some (V.ref q) ∧ q ∈ ps := by
    have b1 := Int.emod_nonneg i (Int.ne_of_gt pos)
    have b2 := Int.emod_lt_of_pos i pos
    obtain ⟨n, hn⟩ := Int.eq_ofNat_of_zero_le b1
    rw [hn] at b2 ⊢
    have lt : n < ps.length := by rw [List.length_map] at b2; omega
    exact ⟨ps[n], atI_get (n := n) (by simp [lt]) rfl, List.getElem_mem lt⟩
  obtain ⟨mq, qd, qp, a, b, k3, hq3⟩ := h3 q hqm
  -- the deck behind the turn
  have again : ∀ (H' : Hp), (∀ x o, x ≠ d → x ≠ q → H x = some o → H' x = some o) → H' d = some (.lst [.ref pl, .int (i + 1)]) → (∃ a b k, H' q = some (.lst [.int a, .int b, .int k])) → ∀ z : Int, Q (.int (z % m)) H' := by
    intro H' kp e1 e2 z
    refine k _ _ (fun x o nx hx => kp x o (fun z => nx (by rw [z]; exact md)) (fun z => nx (by rw [z]; exact mq)) hx) ⟨pl, ps, i + 1, e1, by omega, kp pl _ ne.symm qp.symm h2, hp, ne, md, mpl, fun x hx => ?_, h4⟩ (Int.emod_nonneg _ (by omega)) (Int.emod_lt_of_pos _ (by omega))
    obtain ⟨m1, n1, n2, a', b', k', e⟩ := h3 x hx
    refine ⟨m1, n1, n2, ?_⟩
    by_cases z : x = q
    · rw [z]; exact e2
    · exact ⟨a', b', k', kp x _ n1 z e⟩
  unfold t_law_draw
  repeat kaf_suf
  refine r_ite (fun e1 => ?_) (fun e1 => ?_) <;> repeat kaf_suf
  refine r_ite (fun e2 => ?_) (fun e2 => ?_) <;> repeat kaf_suf
  all_goals
    refine again _ (fun x o n1 n2 hx => ?_) ?_ ⟨_, _, _, upd_same⟩ _
    · kaf_pre
    · kaf_pre
theorem cal_law_draw {c : Cn} {mg : Str → Option Value} {base : Heap} (T : Txt c mg) : Cal c.P c.w c.K mg base CX0 1 "_law_draw" (sp_law_draw c) := by
  obtain ⟨f, fd, F, g, b⟩ := T.F_law_draw
  exact ⟨f, fd, ["deck", "many"], F.ok (k := 0) (N := N_law_draw) sc_law_draw (fun vs H Q E h => h.1) (fun cdv A outer s H vs Q E hr h => ⟨t_law_draw c, by
  exact (pss_cons (ps_set (i := 2) sc_law_draw.nd rfl (Or.inl rfl) (pe_ix (x_ix (hu64 hr)) (pe_ix (x_ix (hu64 hr)) (pv 0) pe_int (fun _ _ => rfl)) (pe_op o_mod (pe_ix (x_ix (hu64 hr)) (pv 0) pe_int (fun _ _ => rfl)) (pe_callB k_len (by rfl) T.n_len (by decide +kernel) (pa_cons (pe_ix (x_ix (hu64 hr)) (pv 0) pe_int (fun _ _ => rfl)) pa_nil))) (fun _ _ => rfl)))
  (pss_cons (ps_asg (pe_op o_add (pe_ix (x_ix (hu64 hr)) (pv 0) pe_int (fun _ _ => rfl)) pe_int) (pg_sub (pv 0) pe_int (s_set (hu64 hr))))
  (pss_cons (ps_if (PW.pt (pw_and (pt_cmpR (o_eq (hu64 hr)) (pe_ix (x_ix (hu64 hr)) (pv 2) pe_int (fun _ _ => rfl)) pe_int (nomark _)) (pw_and1 (pt_cmpR o_gt (pe_ix (x_ix (hu64 hr)) (pv 2) pe_int (fun _ _ => rfl)) pe_int (nomark _))))) (pss_cons (ps_set (i := 3) sc_law_draw.nd rfl (Or.inl rfl) (pe_op o_mod (pe_ix (x_ix (hu64 hr)) (pv 2) pe_int (fun _ _ => rfl)) (pv 1)))
  (pss_cons (ps_asg (pe_op o_div (pe_ix (x_ix (hu64 hr)) (pv 2) pe_int (fun _ _ => rfl)) (pv 1)) (pg_sub (pv 2) pe_int (s_set (hu64 hr))))
  (pss_one (ps_ret (pv 3))))) pss_nil)
  (pss_cons (ps_asg (pe_op o_add (pe_ix (x_ix (hu64 hr)) (pv 2) pe_int (fun _ _ => rfl)) pe_int) (pg_sub (pv 2) pe_int (s_set (hu64 hr))))
  (pss_cons (ps_set (i := 4) sc_law_draw.nd rfl (Or.inl rfl) (pe_op o_mod (pe_op o_add (pe_op o_mod (pe_ix (x_ix (hu64 hr)) (pv 2) pe_int (fun _ _ => rfl)) pe_int) (pe_op o_mul pe_int (pe_ix (x_ix (hu64 hr)) (pv 2) pe_int (fun _ _ => rfl)))) pe_int))
  (pss_cons (ps_set (i := 4) sc_law_draw.nd rfl (Or.inl rfl) (pe_op o_mod (pe_op o_mul (pv 4) (pv 4)) pe_int))
  (pss_cons (ps_set (i := 4) sc_law_draw.nd rfl (Or.inl rfl) (pe_op o_mod (pe_op o_mul (pv 4) (pe_op o_add (pv 4) pe_int)) pe_int))
  (pss_one (ps_ret (pe_op o_mod (pe_op o_div (pv 4) pe_int) (pv 1))))))))))), p_law_draw T h⟩), g, F.kp, b⟩
def sp_law_deck (c : Cn) : Sp := fun vs H Q E => vs.length = 1 ∧ ∃ (a : Addr) (ns : List Int), vs = [.ref a] ∧ SqL c.K H a (ns.map V.int) ∧ ns.length ≤ 63 ∧
  ∀ (H' : Hp) (d : Addr) (M : Addr → Prop), Keep Nil H H' → DeckAt H' d M → (∀ x, M x → H x = none) → Q (.ref d) H'
theorem p_law_deck {c : Cn} {mg : Str → Option Value} (T : Txt c mg) {vs : List V} {H : Hp} {Q : VK} {E : XK} (h : sp_law_deck c vs H Q E) : t_law_deck c { nx := fun _ H' => Q .non H', rt := Q } (start N_law_deck vs) H := by
  obtain ⟨_, a, ns, rfl, hs, few, k⟩ := h
  unfold t_law_deck
  repeat kaf_suf
  intro pl hpl
  have hl : (ns.map V.int).length ≤ 63 := by rw [List.length_map]; exact few
  repeat kaf_suf
  generalize hn : (if (if (↑(List.map V.int ns).length : Int) < 63 then (↑(List.map V.int ns).length : Int) else 63) > 1 then (if (↑(List.map V.int ns).length : Int) < 63 then (↑(List.map V.int ns).length : Int) else 63) else 1) = n
  have n1 : 1 ≤ n := by rw [← hn]; split <;> omega
  have n2 : n ≤ 63 := by rw [← hn]; split <;> (try split) <;> omega
  repeat kaf_suf
  refine for_range (lo := 0) (n := n.toNat) (fun i σ H' => ∃ (ps : List Addr) (x y : Option V), σ = [some (.ref a), some (.ref pl), x, y] ∧ H' pl = some (.lst (ps.map V.ref)) ∧ ps.length = i ∧ Keep Nil H H' ∧
    ∀ q ∈ ps, H q = none ∧ q ≠ pl ∧ ∃ a b c, H' q = some (.lst [.int a, .int b, .int c])) ⟨[], none, none, rfl, upd_same, rfl, Keep.alloc hpl, fun _ z => nomatch z⟩ ?_ ?_
  · rintro i σ H1 hi ⟨ps, x, y, rfl, e1, e2, kp, e3⟩
    have i63 : i < 63 := by omega
    repeat kaf_suf
    refine ⟨fun σ' H' => H' = H1 ∧ ∃ z : Int, σ' = [some (.ref a), some (.ref pl), some (.int (0 + i)), some (.int z)], ?_, ?_⟩
    · repeat kaf_suf
      refine r_ite (fun h => ?_) (fun h => ?_)
      · have lt : i < ns.length := by rw [List.length_map] at h; omega
        have hz : atI (ns.map V.int) (0 + (i : Int)) = some (V.int ns[i]) := atI_get (n := i) (by simp [lt]) (by omega)
        repeat kaf_suf
        exact ⟨rfl, _, rfl⟩
      · repeat kaf_suf
        exact ⟨rfl, _, rfl⟩
    · rintro σ' H' ⟨rfl, z, rfl⟩
      repeat kaf_suf
      intro p hp
      have npl : p ≠ pl := ne_new hp e1
      have hp0 := keep_none kp hp
      repeat kaf_suf
      refine ⟨ps ++ [p], _, _, rfl, ?_, by simp [e2], (kp.new hp).setN hpl, fun q hq => ?_⟩
      · rw [List.map_append]; exact upd_same
      · rcases List.mem_append.mp hq with hq | hq
        · obtain ⟨f1, f2, x, y, z, f3⟩ := e3 q hq
          exact ⟨f1, f2, x, y, z, by kaf_pre⟩
        · cases List.mem_singleton.mp hq
          exact ⟨hp0, npl, _, _, _, get_set npl upd_same⟩
  · rintro σ H1 ⟨ps, x, y, rfl, e1, e2, kp, e3⟩
    repeat kaf_suf
    intro d hd
    have ndp : d ≠ pl := ne_new hd e1
    refine k _ d (fun x => x = d ∨ x = pl ∨ x ∈ ps) (kp.new hd) ⟨pl, ps, 0, upd_same, Int.le_refl _, by kaf_pre, ?_, ndp, .inl rfl, .inr (.inl rfl), fun q hq => ?_, fun _ h => h⟩ fun x hx => ?_
    · intro z; rw [z] at e2; simp at e2; omega
    · obtain ⟨f1, f2, x, y, z, f3⟩ := e3 q hq
      exact ⟨.inr (.inr hq), ne_old hd f3, f2, x, y, z, by kaf_pre⟩
    · rcases hx with rfl | rfl | hx
      · exact keep_none kp hd
      · exact hpl
      · exact (e3 x hx).1
theorem cal_law_deck {c : Cn} {mg : Str → Option Value} {base : Heap} (T : Txt c mg) : Cal c.P c.w c.K mg base CX0 1 "_law_deck" (sp_law_deck c) := by
  obtain ⟨f, fd, F, g, b⟩ := T.F_law_deck
  exact ⟨f, fd, ["script"], F.ok (k := 0) (N := N_law_deck) sc_law_deck (fun vs H Q E h => h.1) (fun cdv A outer s H vs Q E hr h => ⟨t_law_deck c, by
  exact (pss_cons (ps_set (i := 1) sc_law_deck.nd rfl (Or.inl rfl) (pe_lst pa_nil))
  (pss_cons (ps_for PassesOwn.never rfl (pi_range1 rfl T.n_range (pa_cons (pe_callB (k_max rfl) (by rfl) T.n_max (by decide +kernel) (pa_cons pe_int (pa_cons (pe_callB (k_min rfl) (by rfl) T.n_min (by decide +kernel) (pa_cons pe_int (pa_cons (pe_callB k_len (by rfl) T.n_len (by decide +kernel) (pa_cons (pv 0) pa_nil)) pa_nil))) pa_nil))) pa_nil)) (pg_name (i := 2) sc_law_deck.nd rfl (Or.inl rfl))
  (pss_cons (ps_set (i := 3) sc_law_deck.nd rfl (Or.inl rfl) pe_int)
  (C8.pss_cut (ps_if (pt_cmpR (o_lt (hu64 hr)) (pv 2) (pe_callB k_len (by rfl) T.n_len (by decide +kernel) (pa_cons (pv 0) pa_nil)) (nomark _)) (pss_one (ps_set (i := 3) sc_law_deck.nd rfl (Or.inl rfl) (pe_ix (x_ix (hu64 hr)) (pv 0) (pv 2) (fun _ _ => rfl)))) pss_nil)
  (pss_one (ps_expr (pe_bm PySem.F.plainAttrs_list PySem.F.slot_list_append PySem.F.type_list_append mt_append (pv 1) (pa_cons (pe_lst (pa_cons (pv 3) (pa_cons (pe_callTy k_int (by rfl) T.n_int (by decide +kernel) (pa_cons (pe_cmpR o_ge (pv 3) (pe_op o_pow pe_int pe_int) (nomark _)) pa_nil)) (pa_cons (pe_op o_mul pe_int (pv 2)) pa_nil)))) pa_nil)))))))
  (pss_one (ps_ret (pe_lst (pa_cons (pv 1) (pa_cons pe_int pa_nil))))))), p_law_deck T h⟩), g, F.kp, b⟩

/-! the book -/
/-- the rising list of the members -/
def ins (x : Int) : List Int → List Int
  | [] => [x]
  | y :: r => if x < y then x :: y :: r else if x = y then y :: r else y :: ins x r
def canon (l : List Int) : List Int := l.foldr ins []
theorem ins_mem {x z : Int} : ∀ {l : List Int}, z ∈ ins x l ↔ z = x ∨ z ∈ l
  | [] => by simp [ins]
  | y :: r => by
    unfold ins
    split
    · simp
    · split
      · rename_i e; subst e; simp
      · rw [List.mem_cons, ins_mem, List.mem_cons]; constructor
        · rintro (h | h | h) <;> simp [h]
        · rintro (h | h | h) <;> simp [h]
theorem ins_up {x : Int} : ∀ {l : List Int}, l.Pairwise (· < ·) → (ins x l).Pairwise (· < ·)
  | [], _ => by simp [ins]
  | y :: r, h => by
    have h' := List.pairwise_cons.mp h
    unfold ins
    split
    · rename_i lt
      refine List.pairwise_cons.mpr ⟨fun z hz => ?_, h⟩
      rcases List.mem_cons.mp hz with e | hz
      · omega
      · have := h'.1 z hz; omega
    · split
      · exact h
      · refine List.pairwise_cons.mpr ⟨fun z hz => ?_, ins_up h'.2⟩
        rcases ins_mem.mp hz with e | hz
        · omega
        · exact h'.1 z hz
theorem canon_mem {z : Int} : ∀ {l : List Int}, z ∈ canon l ↔ z ∈ l
  | [] => by simp [canon]
  | y :: r => by
    show z ∈ ins y (canon r) ↔ _
    rw [ins_mem, canon_mem, List.mem_cons]
theorem canon_up : ∀ (l : List Int), (canon l).Pairwise (· < ·)
  | [] => List.Pairwise.nil
  | y :: r => ins_up (canon_up r)
theorem up_eq : ∀ {a b : List Int}, a.Pairwise (· < ·) → b.Pairwise (· < ·) → (∀ z, z ∈ a ↔ z ∈ b) → a = b
  | [], [], _, _, _ => rfl
  | [], y :: r, _, _, h => absurd ((h y).mpr List.mem_cons_self) (by simp)
  | x :: a, [], _, _, h => absurd ((h x).mp List.mem_cons_self) (by simp)
  | x :: a, y :: b, ha, hb, h => by
    have ha' := List.pairwise_cons.mp ha
    have hb' := List.pairwise_cons.mp hb
    have e : x = y := by
      rcases List.mem_cons.mp ((h x).mp List.mem_cons_self) with e | h1
      · exact e
      · rcases List.mem_cons.mp ((h y).mpr List.mem_cons_self) with e | h2
        · exact e.symm
        · have := hb'.1 x h1; have := ha'.1 y h2; omega
    subst e
    refine congrArg (x :: ·) (up_eq ha'.2 hb'.2 fun z => ⟨fun hz => ?_, fun hz => ?_⟩)
    · rcases List.mem_cons.mp ((h z).mp (List.mem_cons_of_mem _ hz)) with e | h1
      · have := ha'.1 z hz; omega
      · exact h1
    · rcases List.mem_cons.mp ((h z).mpr (List.mem_cons_of_mem _ hz)) with e | h1
      · have := hb'.1 z hz; omega
      · exact h1
theorem canon_eq {l ns : List Int} (h1 : ns.Pairwise (· < ·)) (h2 : ∀ z, z ∈ ns ↔ z ∈ l) : ns = canon l := up_eq h1 (canon_up l) fun z => by rw [h2, canon_mem]
theorem ins_len (x : Int) : ∀ (l : List Int), (ins x l).length ≤ l.length + 1
  | [] => by simp [ins]
  | y :: r => by
    have := ins_len x r
    unfold ins
    split
    · simp
    · split
      · simp
      · simp only [List.length_cons]; omega
theorem canon_len' : ∀ (l : List Int), (canon l).length ≤ l.length
  | [] => by simp [canon]
  | y :: r => by
    have h1 := canon_len' r
    have h2 := ins_len y (canon r)
    show (ins y (canon r)).length ≤ _
    simp only [List.length_cons]; omega
theorem canon_self {l : List Int} (h : l.Pairwise (· < ·)) : canon l = l := (canon_eq h fun _ => Iff.rfl).symm
/-- a game: left's moves, right's -/
abbrev Gm := List Int × List Int
def gkey (g : Gm) : NestedKey := .tup [.tup (g.1.map .num), .tup (g.2.map .num)]
theorem num_inj : ∀ {a b : List Int}, a.map NestedKey.num = b.map NestedKey.num → a = b
  | [], [], _ => rfl
  | [], _ :: _, h => by simp at h
  | _ :: _, [], h => by simp at h
  | x :: a, y :: b, h => by
    rw [List.map_cons, List.map_cons] at h
    injection h with h1 h2
    injection h1 with h1
    rw [h1, num_inj h2]
theorem gkey_inj {a b : Gm} (h : gkey a = gkey b) : a = b := by
  unfold gkey at h
  injection h with h
  injection h with h1 h2
  injection h1 with h1
  injection h2 with h2 _
  injection h2 with h2
  exact Prod.ext (num_inj h1) (num_inj h2)
/-- the depths of the moves -/
def dps (ds ms : List Int) : List Int := ms.map fun m => ds[m.toNat]?.getD 0
def deepest (ds : List Int) (ms : List Int) (d : Int) : Prop := (ms = [] → d = 0) ∧ (∀ x ∈ dps ds ms, x + 1 ≤ d) ∧ (ms ≠ [] → ∃ x ∈ dps ds ms, d = x + 1)
theorem dps_more {ds e ms : List Int} (h : ∀ m ∈ ms, 0 ≤ m ∧ m < ds.length) : dps (ds ++ e) ms = dps ds ms := by
  refine List.map_congr_left fun m hm => ?_
  obtain ⟨h1, h2⟩ := h m hm
  rw [List.getElem?_append_left (by omega)]
/-- what holds of a book's games -/
structure GOk (gs : List Gm) : Prop where
  zero : gs[0]? = some ([], [])
  nd : gs.Nodup
  up : ∀ g ∈ gs, g.1.Pairwise (· < ·) ∧ g.2.Pairwise (· < ·)
  low : ∀ (i : Nat) (g : Gm), gs[i]? = some g → ∀ m ∈ g.1 ++ g.2, 0 ≤ m ∧ m < i
/-- the depths -/
structure DOk (gs : List Gm) (ds : List Int) : Prop where
  len : ds.length = gs.length
  at_ : ∀ (i : Nat) (g : Gm) (d : Int), gs[i]? = some g → ds[i]? = some d → deepest ds (g.1 ++ g.2) d
def bookFs (mv nm dp : Addr) : List (Str × V) := [("moves", .ref mv), ("numbers", .ref nm), ("depths", .ref dp)]
theorem bookFs_moves {mv nm dp : Addr} : (bookFs mv nm dp).lookup ("moves" : Str) = some (.ref mv) := by rfl
theorem bookFs_numbers {mv nm dp : Addr} : (bookFs mv nm dp).lookup ("numbers" : Str) = some (.ref nm) := by rfl
theorem bookFs_depths {mv nm dp : Addr} : (bookFs mv nm dp).lookup ("depths" : Str) = some (.ref dp) := by rfl
theorem bookFs_need {mv nm dp : Addr} : (bookFs mv nm dp).lookup ("need" : Str) = none := by rfl
theorem bookFs_game {mv nm dp : Addr} : (bookFs mv nm dp).lookup ("game" : Str) = none := by rfl
theorem bookFs_lefts {mv nm dp : Addr} : (bookFs mv nm dp).lookup ("lefts" : Str) = none := by rfl
theorem bookFs_rights {mv nm dp : Addr} : (bookFs mv nm dp).lookup ("rights" : Str) = none := by rfl
theorem bookFs_depth {mv nm dp : Addr} : (bookFs mv nm dp).lookup ("depth" : Str) = none := by rfl
theorem bookFs_many {mv nm dp : Addr} : (bookFs mv nm dp).lookup ("many" : Str) = none := by rfl
/-- the tuple at t is the game g -/
def GAt (H : Hp) (t : Addr) (g : Gm) : Prop := ∃ a b, H t = some (.tup [.ref a, .ref b]) ∧ H a = some (.tup (g.1.map V.int)) ∧ H b = some (.tup (g.2.map V.int))
structure BookAt (c : Cn) (H : Hp) (b : Addr) (M : Addr → Prop) (gs : List Gm) (ds : List Int) : Prop where
  ok : GOk gs
  dok : DOk gs ds
  ex : ∃ (dx mv nm dp : Addr) (ts : List Addr) (xs : List NX), H b = some (.ins c.cBook dx (bookFs mv nm dp)) ∧ H mv = some (.lst (ts.map V.ref)) ∧ Paired (GAt H) ts gs ∧
    NdAt c.P c.w H nm xs ∧ xs.length = gs.length ∧ (∀ g : Gm, nval xs (gkey g) = if g ∈ gs then some (V.int (gs.idxOf g)) else none) ∧ H dp = some (.lst (ds.map V.int)) ∧
    M mv ∧ M nm ∧ M dp ∧ mv ≠ dp ∧ ∀ x, M x → x = mv ∨ x = nm ∨ x = dp
theorem BookAt.ins_ {c : Cn} {H : Hp} {b : Addr} {M : Addr → Prop} {gs : List Gm} {ds : List Int} (B : BookAt c H b M gs ds) : ∃ dx mv nm dp, H b = some (.ins c.cBook dx (bookFs mv nm dp)) := by
  obtain ⟨dx, mv, nm, dp, _, _, h, _⟩ := B.ex
  exact ⟨dx, mv, nm, dp, h⟩
theorem paired_get {α β : Type} {R : α → β → Prop} : ∀ {xs : List α} {ys : List β} {i : Nat} {y : β}, Paired R xs ys → ys[i]? = some y → ∃ x, xs[i]? = some x ∧ R x y
  | _, _, _, _, .nil, h => by simp at h
  | _, _, 0, _, .cons r _, h => by simp at h; subst h; exact ⟨_, rfl, r⟩
  | _, _, i + 1, _, .cons _ t, h => by
    obtain ⟨x, h1, h2⟩ := paired_get (i := i) t (by simpa using h)
    exact ⟨x, by simpa using h1, h2⟩
theorem paired_keep {α β : Type} {R S : α → β → Prop} {xs : List α} {ys : List β} (h : Paired R xs ys) (f : ∀ a b, R a b → S a b) : Paired S xs ys := Paired.mapP h f
theorem GAt.keep {H H' : Hp} {t : Addr} {g : Gm} (h : GAt H t g) (k : ∀ b xs, H b = some (.tup xs) → H' b = some (.tup xs)) : GAt H' t g := by
  obtain ⟨a, b, h1, h2, h3⟩ := h
  exact ⟨a, b, k _ _ h1, k _ _ h2, k _ _ h3⟩
section
variable {c : Cn} {H H' : Hp} {b : Addr} {M N : Addr → Prop} {gs : List Gm} {ds : List Int}
theorem BookAt.cell (B : BookAt c H b M gs ds) {x : Addr} (h : M x) : (∃ l, H x = some (.lst l)) ∨ ∃ φ, H x = some (.ext φ) := by
  obtain ⟨dx, mv, nm, dp, ts, xs, _, h2, _, h4, _, _, h7, _, _, _, _, h8⟩ := B.ex
  rcases h8 x h with rfl | rfl | rfl
  · exact .inl ⟨_, h2⟩
  · exact .inr ⟨_, h4.here⟩
  · exact .inl ⟨_, h7⟩
theorem BookAt.new (B : BookAt c H b M gs ds) {x : Addr} (h : H x = none) : ¬ M x := fun z => by
  rcases B.cell z with ⟨_, e⟩ | ⟨_, e⟩ <;> rw [h] at e <;> cases e
theorem BookAt.tupN (B : BookAt c H b M gs ds) {x : Addr} {l : List V} (h : H x = some (.tup l)) : ¬ M x := fun z => by
  rcases B.cell z with ⟨_, e⟩ | ⟨_, e⟩ <;> rw [h] at e <;> cases e
theorem BookAt.insN (B : BookAt c H b M gs ds) {x C dx : Addr} {l : List (Str × V)} (h : H x = some (.ins C dx l)) : ¬ M x := fun z => by
  rcases B.cell z with ⟨_, e⟩ | ⟨_, e⟩ <;> rw [h] at e <;> cases e
theorem BookAt.keep (B : BookAt c H b M gs ds) (k : Keep N H H') (n : ∀ x, N x → ∃ l, H x = some (.lst l)) (d : ∀ x, M x → ¬ N x) : BookAt c H' b M gs ds := by
  obtain ⟨dx, mv, nm, dp, ts, xs, h1, h2, h3, h4, h5, h6, h7, m1, m2, m3, ne, h8⟩ := B.ex
  have kt : ∀ q ys, H q = some (.tup ys) → H' q = some (.tup ys) := fun q ys e => k _ _ (fun z => by obtain ⟨l, e'⟩ := n q z; rw [e] at e'; cases e') e
  refine ⟨B.ok, B.dok, dx, mv, nm, dp, ts, xs, k _ _ (fun z => ?_) h1, k _ _ (d _ m1) h2, paired_keep h3 fun t g q => q.keep kt, ⟨k _ _ (d _ m2) h4.here, fun x hx => ⟨NkV.keeps kt _ _ (h4.keys x hx).1, (h4.keys x hx).2⟩⟩, h5, h6, k _ _ (d _ m3) h7, m1, m2, m3, ne, h8⟩
  obtain ⟨l, e'⟩ := n b z; rw [h1] at e'; cases e'
theorem BookAt.same (B : BookAt c H b M gs ds) (k : Keep Nil H H') : BookAt c H' b M gs ds := B.keep k (fun _ z => z.elim) fun _ _ z => z
theorem BookAt.pos (B : BookAt c H b M gs ds) : 0 < gs.length := by
  have := B.ok.zero
  exact (List.getElem?_eq_some_iff.mp this).1
end
local macro_rules | `(tactic| kaf_suf) => `(tactic| first
  | ((with_reducible refine' r_kfld ?a (Txt.cl_Book (by assumption)) (Txt.na_Book_moves (by assumption)) bookFs_moves ?_); (case a => (kaf_pre; done)))
  | ((with_reducible refine' r_kfld ?a (Txt.cl_Book (by assumption)) (Txt.na_Book_numbers (by assumption)) bookFs_numbers ?_); (case a => (kaf_pre; done)))
  | ((with_reducible refine' r_kfld ?a (Txt.cl_Book (by assumption)) (Txt.na_Book_depths (by assumption)) bookFs_depths ?_); (case a => (kaf_pre; done)))
  | ((with_reducible refine' r_kmeth ?a ?b ?_); (case a => (kaf_pre; done)); (case b => (first | exact bookFs_need | exact bookFs_game | exact bookFs_lefts | exact bookFs_rights | exact bookFs_depth | exact bookFs_many))))

abbrev N_Book_need : List Str := ["self", "g"]
theorem sc_Book_need : FnScope N_Book_need ["self", "g"] (defScope s_Book_need) := ⟨rfl, rfl, rfl, by decide +kernel, rfl, by decide +kernel, by decide +kernel⟩
def t_Book_need (c : Cn) : TS :=
  (tIfS (tOr (tNot (tTru c.K (tCB (rIsi c.K) (tCons (tVar 1) (tCons (tC (.ty "int")) tNil))))) (tOr (tTru c.K (tCB (rIsi c.K) (tCons (tVar 1) (tCons (tC (.ty "bool")) tNil)))) (tOr (tTest (tOp (cLt c.K) (tVar 1) (tC (.int 0)))) (tTest (tOp cGe (tVar 1) (tCB (kLen c.K) (tCons (tFld c.K (tVar 0) "moves") tNil)))))))
  tNever
  tNext)
def sp_Book_need (c : Cn) : Sp := fun vs H Q E => vs.length = 2 ∧ ∃ (b : Addr) (M : Addr → Prop) (gs : List Gm) (ds : List Int) (g : Int), vs = [.ref b, .int g] ∧ BookAt c H b M gs ds ∧ 0 ≤ g ∧ g < gs.length ∧ Q .non H
theorem p_Book_need {c : Cn} {mg : Str → Option Value} (T : Txt c mg) {vs : List V} {H : Hp} {Q : VK} {E : XK} (h : sp_Book_need c vs H Q E) : t_Book_need c { nx := fun _ H' => Q .non H', rt := Q } (start N_Book_need vs) H := by
  obtain ⟨_, b, M, gs, ds, g, rfl, B, g0, g1, k⟩ := h
  obtain ⟨dx, mv, nm, dp, ts, xs, h1, h2, h3, h4, h5, h6, h7, m1, m2, m3, ne, h8⟩ := B.ex
  have hl : ((ts.map V.ref).length : Int) = gs.length := by rw [List.length_map, Paired.length h3]
  unfold t_Book_need
  repeat kaf_suf
  exact k
theorem met_Book_need {c : Cn} {mg : Str → Option Value} {base : Heap} (T : Txt c mg) : Met c.P c.w c.K mg base CX0 1 c.cBook "need" (sp_Book_need c) := by
  obtain ⟨f, fd, F, g, b⟩ := T.F_Book_need
  exact ⟨f, fd, ["self", "g"], T.cl_Book, g, F.ok (k := 0) (N := N_Book_need) sc_Book_need (fun vs H Q E h => h.1) (fun cdv A outer s H vs Q E hr h => ⟨t_Book_need c, by
  exact (pss_one (ps_if (PW.pt (pw_or (pt_not (p_tru (pe_callB k_isi (by rfl) T.n_isinstance (by decide +kernel) (pa_cons (pv 1) (pa_cons (pe_bltn rfl T.n_int (by decide +kernel) rfl) pa_nil))))) (pw_or (p_tru (pe_callB k_isi (by rfl) T.n_isinstance (by decide +kernel) (pa_cons (pv 1) (pa_cons (pe_bltn rfl T.n_bool (by decide +kernel) rfl) pa_nil)))) (pw_or (pt_cmpR (o_lt (hu64 hr)) (pv 1) pe_int (nomark _)) (pw_or1 (pt_cmpR o_ge (pv 1) (pe_callB k_len (by rfl) T.n_len (by decide +kernel) (pa_cons (pe_fld (pv 0) rfl) pa_nil)) (nomark _))))))) (pss_one ps_never) pss_nil)), p_Book_need T h⟩), b⟩
/-! the games behind a putting -/
def addG (gs : List Gm) (k : Gm) : List Gm := if k ∈ gs then gs else gs ++ [k]
def ixG (gs : List Gm) (k : Gm) : Nat := gs.idxOf k
theorem nk_nums {H : Hp} : ∀ (l : List Int), NkVs H (l.map .num) (l.map V.int)
  | [] => by simp [NkVs]
  | x :: r => by
    simp only [List.map_cons, NkVs]
    exact ⟨_, _, rfl, by simp [NkV], nk_nums r⟩
theorem GAt.nk {H : Hp} {t : Addr} {g : Gm} (h : GAt H t g) : NkV H (gkey g) (.ref t) := by
  obtain ⟨a, b, h1, h2, h3⟩ := h
  unfold gkey
  simp only [NkV]
  refine ⟨t, _, rfl, h1, ?_⟩
  simp only [NkVs, NkV]
  exact ⟨_, _, rfl, ⟨a, _, rfl, h2, nk_nums _⟩, _, _, rfl, ⟨b, _, rfl, h3, nk_nums _⟩, rfl⟩
theorem dep_nums : ∀ (l : List Int), NestedKey.depthAll (l.map .num) ≤ 0
  | [] => by simp [NestedKey.depthAll]
  | x :: r => by
    have := dep_nums r
    simp only [List.map_cons, NestedKey.depthAll, NestedKey.depth]; omega
theorem gkey_depth (g : Gm) : (gkey g).depth ≤ 8 := by
  have h1 := dep_nums g.1
  have h2 := dep_nums g.2
  unfold gkey
  simp only [NestedKey.depth, NestedKey.depthAll]; omega
theorem nd_neL {P : Program} {w : World} {H : Hp} {a x : Addr} {xs : List NX} {l : List V} (N : NdAt P w H a xs) (h : H x = some (.lst l)) : x ≠ a := fun z => by
  rw [z, N.here] at h; unfold NdO at h; cases Option.some.inj h
theorem nd_neT {P : Program} {w : World} {H : Hp} {a x : Addr} {xs : List NX} {l : List V} (N : NdAt P w H a xs) (h : H x = some (.tup l)) : x ≠ a := fun z => by
  rw [z, N.here] at h; unfold NdO at h; cases Option.some.inj h
theorem nd_neI {P : Program} {w : World} {H : Hp} {a x C dx : Addr} {xs : List NX} {l : List (Str × V)} (N : NdAt P w H a xs) (h : H x = some (.ins C dx l)) : x ≠ a := fun z => by
  rw [z, N.here] at h; unfold NdO at h; cases Option.some.inj h
theorem lt_ne {H : Hp} {a x : Addr} {l m : List V} (N : H a = some (.lst m)) (h : H x = some (.tup l)) : x ≠ a := fun z => by
  rw [z, N] at h; cases h
theorem li_ne {H : Hp} {a x C dx : Addr} {l : List (Str × V)} {m : List V} (N : H a = some (.lst m)) (h : H x = some (.ins C dx l)) : x ≠ a := fun z => by
  rw [z, N] at h; cases h
theorem nput_new {xs : List NX} {k : NestedKey} {a : Addr} {v : V} (h : nval xs k = none) : nput xs k a v = xs ++ [(k, a, v)] := by
  unfold nput; rw [h]; rfl
theorem nval_snoc {xs : List NX} {k k' : NestedKey} {a : Addr} {v : V} : nval (xs ++ [(k, a, v)]) k' = (nval xs k').or (if k = k' then some v else none) := by
  unfold nval
  rw [List.find?_append]
  cases e : xs.find? fun x => decide (x.1 = k') with
  | some q => simp
  | none =>
    by_cases h : k = k'
    · simp [h]
    · simp [h]
theorem v_ninN {P : Program} {w : World} {K : PySem.W.Frag} {H : Hp} {Q : VK} {p a : Addr} {k : NestedKey} {xs : List NX} (N : NdAt P w H a xs) (kp : NkV H k (.ref p)) (d : k.depth ≤ 8) (q : Q (.bl (!(nval xs k).isSome)) H) : cNotIn P w K (.ref p) (.ref a) H Q := by
  refine .inr (.inr (.inr (.inr ⟨a, p, k, xs, rfl, rfl, N, kp, d, ?_⟩)))
  simpa using q
theorem v_inN {P : Program} {w : World} {K : PySem.W.Frag} {H : Hp} {Q : VK} {p a : Addr} {k : NestedKey} {xs : List NX} (N : NdAt P w H a xs) (kp : NkV H k (.ref p)) (d : k.depth ≤ 8) (q : Q (.bl (nval xs k).isSome) H) : cIn P w K (.ref p) (.ref a) H Q := by
  refine .inr (.inr (.inr (.inr ⟨a, p, k, xs, rfl, rfl, N, kp, d, ?_⟩)))
  simpa using q
theorem v_ixN {P : Program} {w : World} {K : PySem.W.Frag} {H : Hp} {Q : VK} {p a : Addr} {k : NestedKey} {xs : List NX} {v : V} (N : NdAt P w H a xs) (kp : NkV H k (.ref p)) (d : k.depth ≤ 8) (e : nval xs k = some v) (q : Q v H) : bIx P w K (.ref a) (.ref p) H Q :=
  .inr (.inr (.inr (.inr ⟨a, p, k, xs, v, rfl, rfl, N, kp, d, e, q⟩)))
theorem v_setN {P : Program} {w : World} {H : Hp} {Q : Hp → Prop} {p a : Addr} {k : NestedKey} {xs : List NX} {v : V} (N : NdAt P w H a xs) (kp : NkV H k (.ref p)) (d : k.depth ≤ 8) (l : xs.length < sizeLine) (q : Q (upd H a (NdO P w a (nput xs k p v)))) : bSet P w (.ref a) (.ref p) v H Q :=
  .inr (.inr ⟨a, p, k, xs, rfl, rfl, N, kp, d, l, q⟩)
theorem GOk.add {gs : List Gm} (o : GOk gs) {ls rs : List Int} (h : ∀ m ∈ ls ++ rs, 0 ≤ m ∧ m < gs.length) : GOk (addG gs (canon ls, canon rs)) := by
  unfold addG
  split
  · exact o
  · rename_i ni
    have pos : 0 < gs.length := (List.getElem?_eq_some_iff.mp o.zero).1
    refine ⟨?_, ?_, fun g hg => ?_, fun i g hi m hm => ?_⟩
    · rw [List.getElem?_append_left pos]; exact o.zero
    · refine List.nodup_append.mpr ⟨o.nd, by simp, fun a ha b hb => ?_⟩
      cases List.mem_singleton.mp hb
      exact fun z => ni (z ▸ ha)
    · rcases List.mem_append.mp hg with hg | hg
      · exact o.up g hg
      · cases List.mem_singleton.mp hg
        exact ⟨canon_up _, canon_up _⟩
    · by_cases lt : i < gs.length
      · rw [List.getElem?_append_left lt] at hi
        exact o.low i g hi m hm
      · have hl := (List.getElem?_eq_some_iff.mp hi).1
        have e : i = gs.length := by rw [List.length_append] at hl; simp at hl; omega
        subst e
        rw [List.getElem?_append_right (Nat.le_refl _)] at hi
        simp at hi
        subst hi
        rw [List.mem_append, canon_mem, canon_mem, ← List.mem_append] at hm
        exact h m hm
theorem DOk.add {gs : List Gm} {ds : List Int} (d : DOk gs ds) (o : GOk gs) {k : Gm} (h : ∀ m ∈ k.1 ++ k.2, 0 ≤ m ∧ m < gs.length) (ne : k.1 ++ k.2 ≠ []) {m : Int} (hm : m ∈ dps ds (k.1 ++ k.2)) (hx : ∀ x ∈ dps ds (k.1 ++ k.2), x ≤ m) : DOk (gs ++ [k]) (ds ++ [1 + m]) := by
  refine ⟨by simp [d.len], fun i g e hg he => ?_⟩
  by_cases lt : i < gs.length
  · rw [List.getElem?_append_left lt] at hg
    rw [List.getElem?_append_left (by rw [d.len]; exact lt)] at he
    have b : ∀ m ∈ g.1 ++ g.2, 0 ≤ m ∧ m < ds.length := fun m hm => by have := o.low i g hg m hm; rw [d.len]; omega
    unfold deepest
    rw [dps_more b]
    exact d.at_ i g e hg he
  · have hl := (List.getElem?_eq_some_iff.mp hg).1
    have e : i = gs.length := by rw [List.length_append] at hl; simp at hl; omega
    subst e
    rw [List.getElem?_append_right (Nat.le_refl _)] at hg
    rw [← d.len, List.getElem?_append_right (Nat.le_refl _)] at he
    simp at hg he
    subst hg he
    unfold deepest
    rw [dps_more (by rw [d.len]; exact h)]
    exact ⟨fun z => absurd z ne, fun x q => by have := hx x q; omega, fun _ => ⟨m, hm, by omega⟩⟩
theorem ixG_get {gs : List Gm} {k : Gm} (h : k ∈ gs) : gs[ixG gs k]? = some k := by
  have l := List.idxOf_lt_length_of_mem h
  rw [ixG, List.getElem?_eq_getElem l, List.getElem_idxOf l]
theorem addG_mem (gs : List Gm) (k : Gm) : k ∈ addG gs k := by
  unfold addG; split
  · assumption
  · simp
theorem addG_len {gs : List Gm} {k : Gm} : (addG gs k).length ≤ gs.length + 1 ∧ gs.length ≤ (addG gs k).length := by
  unfold addG; split <;> simp
theorem addG_get {gs : List Gm} {k g : Gm} {i : Nat} (h : gs[i]? = some g) : (addG gs k)[i]? = some g := by
  unfold addG; split
  · exact h
  · rw [List.getElem?_append_left (List.getElem?_eq_some_iff.mp h).1]; exact h
abbrev N_Book_game : List Str := ["self", "lefts", "rights", "g", "key"]
theorem sc_Book_game : FnScope N_Book_game ["self", "lefts", "rights"] (defScope s_Book_game) := ⟨rfl, rfl, rfl, by decide +kernel, rfl, by decide +kernel, by decide +kernel⟩
def t_Book_game (c : Cn) : TS :=
  (tSeq (tFor (iAny c.K (tOp (bAdd c.K) (tCB (kList c.K) (tCons (tVar 1) tNil)) (tCB (kList c.K) (tCons (tVar 2) tNil)))) (gName 3)
  (tDrop (tMeth c.cBook "need" (sp_Book_need c) [] E0 (tVar 0) (tCons (tVar 3) tNil))))
  (tSeq (tAsg (tTup (tCons (tCB (kTuple c.K) (tCons (tCB (kSorted c.K c.w) (tCons (tCB (uSetI c.K c.w) (tCons (tVar 1) tNil)) tNil)) tNil)) (tCons (tCB (kTuple c.K) (tCons (tCB (kSorted c.K c.w) (tCons (tCB (uSetI c.K c.w) (tCons (tVar 2) tNil)) tNil)) tNil)) tNil))) (gName 4))
  (C8.tCut (tIfS (tTest (tOp (cNotIn c.P c.w c.K) (tVar 4) (tFld c.K (tVar 0) "numbers")))
  (tSeq (tAsg (tCB (kLen c.K) (tCons (tFld c.K (tVar 0) "moves") tNil)) (gSub (tFld c.K (tVar 0) "numbers") (tVar 4) (bSet c.P c.w)))
  (tSeq (tDrop (tBM c.K "list" rAppend (tFld c.K (tVar 0) "moves") (tCons (tVar 4) tNil)))
  (tDrop (tBM c.K "list" rAppend (tFld c.K (tVar 0) "depths") (tCons (tOp (bAdd c.K) (tC (.int 1)) (tCB (kMax c.K) (tCons (tLc (iAny c.K (tOp (bAdd c.K) (tOp (bIx c.P c.w c.K) (tVar 4) (tC (.int 0))) (tOp (bIx c.P c.w c.K) (tVar 4) (tC (.int 1))))) (gName 3) tYes (tOp (bIx c.P c.w c.K) (tFld c.K (tVar 0) "depths") (tVar 3)) [3]) tNil))) tNil)))))
  tNext)
  (tRet (tOp (bIx c.P c.w c.K) (tFld c.K (tVar 0) "numbers") (tVar 4))))))
def sp_Book_game (c : Cn) : Sp := fun vs H Q E => vs.length = 3 ∧ ∃ (b l r : Addr) (M : Addr → Prop) (gs : List Gm) (ds ls rs : List Int), vs = [.ref b, .ref l, .ref r] ∧ BookAt c H b M gs ds ∧ H l = some (.lst (ls.map V.int)) ∧ H r = some (.lst (rs.map V.int)) ∧ ¬ M l ∧ ¬ M r ∧
  gs.length ≤ 90000 ∧ ls.length ≤ 4000 ∧ rs.length ≤ 4000 ∧ (∀ m ∈ ls ++ rs, 0 ≤ m ∧ m < gs.length) ∧
  ∀ (H' : Hp) (e : List Int), Keep M H H' → BookAt c H' b M (addG gs (canon ls, canon rs)) (ds ++ e) → Q (.int (ixG (addG gs (canon ls, canon rs)) (canon ls, canon rs))) H'
theorem p_Book_game {c : Cn} {mg : Str → Option Value} (T : Txt c mg) {vs : List V} {H : Hp} {Q : VK} {E : XK} (h : sp_Book_game c vs H Q E) : t_Book_game c { nx := fun _ H' => Q .non H', rt := Q } (start N_Book_game vs) H := by
  obtain ⟨_, b, l, r, M, gs, ds, ls, rs, rfl, B, hl, hr, nl, nr, fw1, fw2, fw3, low, k⟩ := h
  unfold t_Book_game
  repeat kaf_suf
  intro p1 hp1
  repeat kaf_suf
  intro p2 hp2
  repeat kaf_suf
  intro p3 hp3
  repeat kaf_suf
  have kp3 : Keep Nil H (upd (upd (upd H p1 (.lst (ls.map V.int))) p2 (.lst (rs.map V.int))) p3 (.lst (ls.map V.int ++ rs.map V.int))) := ((Keep.alloc hp1).new hp2).new hp3
  have B3 := B.same kp3
  have hl3 := kp3.get (fun z => z) hl
  have hr3 := kp3.get (fun z => z) hr
  have h3 : upd (upd (upd H p1 (.lst (ls.map V.int))) p2 (.lst (rs.map V.int))) p3 (.lst (ls.map V.int ++ rs.map V.int)) p3 = some (.lst (ls.map V.int ++ rs.map V.int)) := upd_same
  generalize hH3 : upd (upd (upd H p1 (.lst (ls.map V.int))) p2 (.lst (rs.map V.int))) p3 (.lst (ls.map V.int ++ rs.map V.int)) = H3 at kp3 B3 hl3 hr3 h3 ⊢
  refine for_list (xs := ls.map V.int ++ rs.map V.int) (fun i σ H' => H' = H3 ∧ ∃ y, σ = [some (.ref b), some (.ref l), some (.ref r), y, none]) ⟨rfl, _, rfl⟩ ?_ ?_ ?_
  · rintro i σ H' hi ⟨rfl, y, rfl⟩; exact SqL.of h3
  · rintro i x σ H' hi ⟨rfl, y, rfl⟩
    obtain ⟨m, hm, rfl⟩ : ∃ m ∈ ls ++ rs, V.int m = x := by
      rw [← List.map_append] at hi
      have := List.mem_of_getElem? hi
      exact List.mem_map.mp this
    obtain ⟨hm0, hm1⟩ := low m hm
    obtain ⟨dx, mv, nm, dp, hb3⟩ := B3.ins_
    repeat kaf_suf
    refine ⟨rfl, b, M, gs, ds, m, rfl, B3, hm0, hm1, ?_⟩
    repeat kaf_suf
    exact ⟨rfl, _, rfl⟩
  · rintro σ H' ⟨rfl, y, rfl⟩
    have w1 : ls.length ≤ 4000 := by omega
    have w2 : rs.length ≤ 4000 := by omega
    repeat kaf_suf
    intro p4 c4 hp4 _
    repeat kaf_suf
    intro ns4 p5 u4 m4 _ hp5
    repeat kaf_suf
    intro p6 hp6
    repeat kaf_suf
    intro p7 c7 hp7 _
    repeat kaf_suf
    intro ns7 p8 u7 m7 _ hp8
    repeat kaf_suf
    intro p9 hp9
    repeat kaf_suf
    intro t ht
    repeat kaf_suf
    obtain rfl : ns4 = canon ls := canon_eq u4 (by simpa using m4)
    obtain rfl : ns7 = canon rs := canon_eq u7 (by simpa using m7)
    refine absS (S := fun HT => Keep Nil H HT ∧ GAt HT t (canon ls, canon rs)) ⟨?_, p6, p9, upd_same, by kaf_pre, by kaf_pre⟩ fun HT ⟨kT, gT⟩ => ?_
    · exact (((((((kp3.new hp4).new hp5).new hp6).new hp7).new hp8).new hp9).new ht)
    have BT := B.same kT
    obtain ⟨dx, mv, nm, dp, ts, xs, h1, h2, h3, h4, h5, h6, h7, m1, m2, m3, ne, h8⟩ := BT.ex
    have hlen := BT.dok.len
    have htl := Paired.length h3
    have hv := h6 (canon ls, canon rs)
    refine ⟨fun σ' H2 => ∃ y e, σ' = [some (.ref b), some (.ref l), some (.ref r), y, some (.ref t)] ∧ Keep M H H2 ∧ BookAt c H2 b M (addG gs (canon ls, canon rs)) (ds ++ e) ∧ GAt H2 t (canon ls, canon rs), ?_, ?_⟩
    · repeat kaf_suf
      refine v_ninN h4 gT.nk (gkey_depth _) ?_
      by_cases hin : (canon ls, canon rs) ∈ gs
      · rw [hv, if_pos hin]
        repeat kaf_suf
        exact ⟨_, [], rfl, kT.weak, by rw [List.append_nil, addG, if_pos hin]; exact BT, gT⟩
      · rw [hv, if_neg hin]
        rw [if_neg hin] at hv
        refine r_kB (r_ite_nf ?_)
        repeat kaf_suf
        have e1 := nd_neL h4 h2
        have e2 := nd_neL h4 h7
        have e3 := nd_neI h4 h1
        have e4 := li_ne h2 h1
        have e5 := li_ne h7 h1
        obtain ⟨ka, kb, t1, t2, t3⟩ := id gT
        have ea1 := nd_neT h4 t1
        have ea2 := lt_ne h2 t1
        have ea3 := lt_ne h7 t1
        have eb1 := nd_neT h4 t2
        have eb2 := lt_ne h2 t2
        have eb3 := lt_ne h7 t2
        have ec1 := nd_neT h4 t3
        have ec2 := lt_ne h2 t3
        have ec3 := lt_ne h7 t3
        refine v_setN h4 gT.nk (gkey_depth _) (few1 (by omega)) ?_
        rw [nput_new hv]
        repeat kaf_suf
        have g1 := canon_len' ls
        have g2 := canon_len' rs
        intro p H' hp' kp'
        repeat kaf_suf
        intro D hD
        have hall : ∀ m ∈ canon ls ++ canon rs, 0 ≤ m ∧ m < gs.length := fun m hm => low m (by rw [List.mem_append, canon_mem, canon_mem, ← List.mem_append] at hm; exact hm)
        have hDp : H' dp = some (.lst (ds.map V.int)) := by kaf_pre
        have hlen2 : (dps ds (canon ls ++ canon rs)).length = (canon ls ++ canon rs).length := List.length_map _
        refine lc_tup (xs := (canon ls).map V.int ++ (canon rs).map V.int) (fun i H2 => H2 D = some (.lst (((dps ds (canon ls ++ canon rs)).take i).map V.int)) ∧ Keep Nil H' H2) ⟨upd_same, Keep.alloc hD⟩ ?_ ?_ ?_
        · rintro i H2 _ ⟨_, k2⟩; exact SqT.of (by kaf_pre)
        · rintro i x H2 hi ⟨e2, k2⟩
          rw [← List.map_append, List.getElem?_map] at hi
          obtain ⟨m, hm, rfl⟩ := Option.map_eq_some_iff.mp hi
          obtain ⟨b1, b2⟩ := hall m (List.mem_of_getElem? hm)
          have hm' := (List.getElem?_eq_some_iff.mp hm).1
          rw [List.length_append] at hm'
          obtain ⟨n, rfl⟩ := Int.eq_ofNat_of_zero_le b1
          have hn : n < ds.length := by omega
          have hx : atI (ds.map V.int) (n : Int) = some (V.int ds[n]) := atI_get (n := n) (by simp [hn]) rfl
          repeat kaf_suf
          refine ⟨rfl, ?_⟩
          repeat kaf_suf
          refine ⟨_, e2, few1 (by simp; omega), ?_, k2.setN hD⟩
          rw [upd_same]
          have e : (dps ds (canon ls ++ canon rs))[i]? = some ds[n] := by
            rw [dps, List.getElem?_map, hm]; simp [hn]
          rw [List.take_succ, e]; simp
        · rintro H2 ⟨e2, k2⟩
          have e3 : H2 D = some (.lst ((dps ds (canon ls ++ canon rs)).map V.int)) := by
            rw [e2, List.take_of_length_le (by rw [hlen2]; simp)]
          repeat kaf_suf
          have ea : addG gs (canon ls, canon rs) = gs ++ [(canon ls, canon rs)] := if_neg hin
          have nee : canon ls ++ canon rs ≠ [] := fun z => by
            obtain ⟨z1, z2⟩ := List.append_eq_nil_iff.mp z
            rw [z1, z2] at hin
            exact hin (List.mem_of_getElem? B.ok.zero)
          refine v_maxL e3 (by rw [hlen2]; exact List.length_pos_iff.mpr nee) fun m hm hmax => ?_
          repeat kaf_suf
          have kf : Keep M HT (upd H2 dp (.lst (ds.map V.int ++ [V.int (1 + m)]))) := Keep.set (Keep.trans (Keep.trans (Keep.set (Keep.set Keep.refl m2) m1) kp'.weak) k2.weak) m3
          have kt : ∀ q ys, HT q = some (.tup ys) → (upd H2 dp (.lst (ds.map V.int ++ [V.int (1 + m)]))) q = some (.tup ys) := fun q ys e => kf q _ (BT.tupN e) e
          have gf := gT.keep kt
          have hnm : H' nm = some (NdO c.P c.w nm (xs ++ [(gkey (canon ls, canon rs), t, V.int ((ts.map V.ref).length : Nat))])) := kp'.get (fun z => z) (get_set e1.symm upd_same)
          refine ⟨_, [1 + m], rfl, kT.weak.trans kf, ⟨B.ok.add low, ?_, dx, mv, nm, dp, ts ++ [t], xs ++ [(gkey (canon ls, canon rs), t, V.int ((ts.map V.ref).length : Nat))], ?_, ?_, ?_, ⟨?_, ?_⟩, ?_, ?_, ?_, m1, m2, m3, ne, h8⟩, gf⟩
          · rw [ea]; exact B.dok.add B.ok hall nee hm hmax
          · kaf_pre
          · rw [List.map_append]; kaf_pre
          · rw [ea]; exact Paired.snoc (paired_keep h3 fun t g q => q.keep kt) gf
          · refine get_set ?_ (k2.get (fun z => z) hnm)
            tlg_ne
          · intro x hx
            rcases List.mem_append.mp hx with hx | hx
            · exact ⟨NkV.keeps kt _ _ (h4.keys x hx).1, (h4.keys x hx).2⟩
            · cases List.mem_singleton.mp hx
              exact ⟨gf.nk, gkey_depth _⟩
          · rw [ea]; simp [h5]
          · intro g
            rw [ea, nval_snoc, h6, List.length_map, htl]
            by_cases hg : g ∈ gs
            · rw [if_pos hg, if_pos (List.mem_append_left _ hg), List.idxOf_append, if_pos hg]; rfl
            · rw [if_neg hg]
              by_cases e : g = (canon ls, canon rs)
              · subst e
                rw [if_pos rfl, if_pos (List.mem_append_right _ List.mem_cons_self), List.idxOf_append, if_neg hg]
                simp
              · rw [if_neg (fun z => e (gkey_inj z).symm), if_neg (by simp [hg, e])]; rfl
          · rw [List.map_append]; exact upd_same
    · rintro σ' H2 ⟨y', e, rfl, k2, B2, g2⟩
      obtain ⟨dx, mv, nm, dp, ts, xs, h1, h2, h3, h4, h5, h6, h7, m1, m2, m3, ne, h8⟩ := B2.ex
      repeat kaf_suf
      refine v_ixN h4 g2.nk (gkey_depth _) ((h6 _).trans (if_pos (addG_mem _ _))) ?_
      repeat kaf_suf
      exact k H2 e k2 B2
theorem met_Book_game {c : Cn} {mg : Str → Option Value} {base : Heap} (T : Txt c mg) : Met c.P c.w c.K mg base CX0 2 c.cBook "game" (sp_Book_game c) := by
  obtain ⟨f, fd, F, g, b⟩ := T.F_Book_game
  exact ⟨f, fd, ["self", "lefts", "rights"], T.cl_Book, g, F.ok (k := 1) (N := N_Book_game) sc_Book_game (fun vs H Q E h => h.1) (fun cdv A outer s H vs Q E hr h => ⟨t_Book_game c, by
  exact (pss_cons (ps_for PassesOwn.never rfl (pi_any (pe_op o_add (pe_callTy (k_list rfl) (by rfl) T.n_list (by decide +kernel) (pa_cons (pv 1) pa_nil)) (pe_callTy (k_list rfl) (by rfl) T.n_list (by decide +kernel) (pa_cons (pv 2) pa_nil)))) (pg_name (i := 3) sc_Book_game.nd rfl (Or.inl rfl))
  (pss_one (ps_expr (e_meth (met_Book_need T) hr (by decide) pass0 (pv 0) (pa_cons (pv 3) pa_nil)))))
  (pss_cons (ps_set (i := 4) sc_Book_game.nd rfl (Or.inl rfl) (pe_tup (pa_cons (pe_callTy k_tuple (by rfl) T.n_tuple (by decide +kernel) (pa_cons (pe_callB (k_sorted rfl) (by rfl) T.n_sorted (by decide +kernel) (pa_cons (pe_callTy (k_set rfl) (by rfl) T.n_set (by decide +kernel) (pa_cons (pv 1) pa_nil)) pa_nil)) pa_nil)) (pa_cons (pe_callTy k_tuple (by rfl) T.n_tuple (by decide +kernel) (pa_cons (pe_callB (k_sorted rfl) (by rfl) T.n_sorted (by decide +kernel) (pa_cons (pe_callTy (k_set rfl) (by rfl) T.n_set (by decide +kernel) (pa_cons (pv 2) pa_nil)) pa_nil)) pa_nil)) pa_nil))))
  (C8.pss_cut (ps_if (pt_cmpR (o_notin (hu65 hr)) (pv 4) (pe_fld (pv 0) rfl) (by rfl)) (pss_cons (ps_asg (pe_callB k_len (by rfl) T.n_len (by decide +kernel) (pa_cons (pe_fld (pv 0) rfl) pa_nil)) (pg_sub (pe_fld (pv 0) rfl) (pv 4) (s_set (hu64 hr))))
  (pss_cons (ps_expr (pe_bm PySem.F.plainAttrs_list PySem.F.slot_list_append PySem.F.type_list_append mt_append (pe_fld (pv 0) rfl) (pa_cons (pv 4) pa_nil)))
  (pss_one (ps_expr (pe_bm PySem.F.plainAttrs_list PySem.F.slot_list_append PySem.F.type_list_append mt_append (pe_fld (pv 0) rfl) (pa_cons (pe_op o_add pe_int (pe_callB (k_max rfl) (by rfl) T.n_max (by decide +kernel) (pa_cons (pe_lc (own := [("g", 3)]) rfl sc_Book_game.nd (pi_any (pe_op o_add (pe_ix (x_ix (hu64 hr)) (pv 4) pe_int (fun _ _ => rfl)) (pe_ix (x_ix (hu64 hr)) (pv 4) pe_int (fun _ _ => rfl)))) (blkOk_by (own := [("g", 3)]) (N := N_Book_game) (sc := defScope s_Book_game) (by decide +kernel)) (fun _ _ _ _ _ => (pg_name (i := 3) sc_Book_game.nd rfl (Or.inl rfl))) (fun _ _ _ _ _ => pts_nil) (fun _ _ _ _ _ => (pe_ix (x_ix (hu64 hr)) (pe_fld (pv 0) rfl) (pv 3) (fun _ _ => rfl)))) pa_nil))) pa_nil)))))) pss_nil)
  (pss_one (ps_ret (pe_ix (x_ix (hu64 hr)) (pe_fld (pv 0) rfl) (pv 4) (fun _ _ => rfl))))))), p_Book_game T h⟩), b⟩
/-! the book as it is made; how many -/
theorem putF_0 {x : V} : putF ("moves" : Str) x [] = [(("moves" : Str), x)] := by rfl
theorem putF_1 {x y : V} : putF ("numbers" : Str) y [(("moves" : Str), x)] = [(("moves" : Str), x), (("numbers" : Str), y)] := by
  unfold putF; rw [if_neg (by decide)]; rfl
theorem putF_2 {x y z : V} : putF ("depths" : Str) z [(("moves" : Str), x), (("numbers" : Str), y)] = [(("moves" : Str), x), (("numbers" : Str), y), (("depths" : Str), z)] := by
  unfold putF; rw [if_neg (by decide)]; unfold putF; rw [if_neg (by decide)]; rfl
theorem GOk.one : GOk [([], [])] := ⟨rfl, by simp, fun g hg => by cases List.mem_singleton.mp hg; exact ⟨List.Pairwise.nil, List.Pairwise.nil⟩, fun i g h m hm => by
  cases i with
  | zero => simp at h; subst h; simp at hm
  | succ i => simp at h⟩
theorem DOk.one : DOk [([], [])] [0] := ⟨rfl, fun i g d h hd => by
  cases i with
  | zero => simp at h hd; subst h hd; exact ⟨fun _ => rfl, fun x hx => by simp [dps] at hx, fun z => absurd rfl z⟩
  | succ i => simp at h⟩
abbrev N_Book_init : List Str := ["self"]
theorem sc_Book_init : FnScope N_Book_init ["self"] (defScope s_Book_init) := ⟨rfl, rfl, rfl, by decide +kernel, rfl, by decide +kernel, by decide +kernel⟩
def t_Book_init (c : Cn) : TS :=
  (tSeq (sFld c.K (tVar 0) (tLst (tCons (tTup (tCons (tTup tNil) (tCons (tTup tNil) tNil))) tNil)) "moves")
  (tSeq (sFld c.K (tVar 0) (uDisp1 c.P c.w (tTup (tCons (tTup tNil) (tCons (tTup tNil) tNil))) (tC (.int 0))) "numbers")
  (sFld c.K (tVar 0) (tLst (tCons (tC (.int 0)) tNil)) "depths")))
def sp_Book_init (c : Cn) : Sp := fun vs H Q E => vs.length = 1 ∧ ∃ (b dx : Addr), vs = [.ref b] ∧ H b = some (.ins c.cBook dx []) ∧
  ∀ (H' : Hp) (M : Addr → Prop), Keep (fun x => x = b) H H' → BookAt c H' b M [([], [])] [0] → (∀ x, M x → H x = none) → Q .non H'
theorem p_Book_init {c : Cn} {mg : Str → Option Value} (T : Txt c mg) {vs : List V} {H : Hp} {Q : VK} {E : XK} (h : sp_Book_init c vs H Q E) : t_Book_init c { nx := fun _ H' => Q .non H', rt := Q } (start N_Book_init vs) H := by
  obtain ⟨_, b, dx, rfl, hb, k⟩ := h
  unfold t_Book_init
  repeat kaf_suf
  intro p1 hp1
  repeat kaf_suf
  intro p2 hp2
  repeat kaf_suf
  intro p3 hp3
  repeat kaf_suf
  intro mv hmv
  repeat kaf_suf
  refine r_ksfld (by kaf_pre) (Txt.cl_Book T) (Txt.na_Book_moves T) (by decide) ?_
  repeat kaf_suf
  intro nm hnm
  repeat kaf_suf
  intro p4 hp4
  repeat kaf_suf
  intro p5 hp5
  repeat kaf_suf
  intro t ht
  repeat kaf_suf
  have w0 : nm ≠ mv := ne_new hnm (show _ = some (HO.lst [V.ref p3]) by kaf_pre)
  have w1 : b ≠ nm := ne_old hnm upd_same
  have w2 : mv ≠ b := ne_new hmv (by kaf_pre)
  have w3 : p3 ≠ mv := ne_old hmv upd_same
  have hnm0 : H nm = none := by
    have h0 := none_of_upd hnm
    exact none_of_upd (none_of_upd (none_of_upd (none_of_upd h0)))
  have hmv0 : H mv = none := none_of_upd (none_of_upd (none_of_upd hmv))
  refine ⟨gkey ([], []), t, rfl, by kaf_pre, GAt.nk (g := ([], [])) ⟨p4, p5, by kaf_pre, by kaf_pre, by kaf_pre⟩, gkey_depth _, ?_⟩
  repeat kaf_suf
  refine r_ksfld (by kaf_pre) (Txt.cl_Book T) (Txt.na_Book_numbers T) (by rw [putF_0]; simp) ?_
  repeat kaf_suf
  intro dp hdp
  repeat kaf_suf
  refine r_ksfld (by kaf_pre) (Txt.cl_Book T) (Txt.na_Book_depths T) (by rw [putF_0, putF_1]; simp) ?_
  repeat kaf_suf
  have hdp0 : H dp = none := by
    have := hdp
    repeat (first | exact this | replace this := none_of_upd this)
  have w4 : dp ≠ mv := ne_new hdp (show _ = some (HO.lst [V.ref p3]) by kaf_pre)
  have w5 : dp ≠ nm := ne_new hdp (show _ = some (NdO c.P c.w nm [(gkey ([], []), t, V.int 0)]) by kaf_pre)
  have w6 : dp ≠ b := ne_new hdp upd_same
  have x3 : p3 ≠ nm := ne_old hnm (by kaf_pre)
  have x2 : p2 ≠ nm := ne_old hnm (by kaf_pre)
  have x1 : p1 ≠ nm := ne_old hnm (by kaf_pre)
  have y3 : p3 ≠ b := ne_new hp3 (by kaf_pre)
  have y2 : p2 ≠ b := ne_new hp2 (by kaf_pre)
  have y1 : p1 ≠ b := ne_new hp1 (by kaf_pre)
  have z4 : p4 ≠ b := ne_new hp4 (by kaf_pre)
  have z5 : p5 ≠ b := ne_new hp5 (by kaf_pre)
  have z6 : t ≠ b := ne_new ht (by kaf_pre)
  have q4 : p4 ≠ nm := ne_new hp4 upd_same
  have q5 : p5 ≠ nm := ne_new hp5 (by kaf_pre)
  have q6 : t ≠ nm := ne_new ht (by kaf_pre)
  refine absQ (S := fun H' => Keep (fun x => x = b) H H' ∧ H' b = some (.ins c.cBook dx (bookFs mv nm dp)) ∧ H' mv = some (.lst [.ref p3]) ∧ H' p3 = some (.tup [.ref p1, .ref p2]) ∧ H' p1 = some (.tup []) ∧ H' p2 = some (.tup []) ∧
    H' nm = some (NdO c.P c.w nm [(gkey ([], []), t, V.int 0)]) ∧ H' t = some (.tup [.ref p4, .ref p5]) ∧ H' p4 = some (.tup []) ∧ H' p5 = some (.tup []) ∧ H' dp = some (.lst [.int 0])) ⟨?_, ?_, ?_, ?_, ?_, ?_, ?_, ?_, ?_, ?_, ?_⟩ fun HX ⟨f0, f1, f2, f3, f4, f5, f6, f7, f8, f9, f10⟩ => ?_
  · repeat (first | exact Keep.refl | refine' Keep.set ?_ rfl | refine' Keep.new ?_ (by assumption) | refine' Keep.setN ?_ (by assumption))
  · rw [putF_0, putF_1, putF_2]; exact upd_same
  · kaf_pre
  · kaf_pre
  · kaf_pre
  · kaf_pre
  · kaf_pre
  · kaf_pre
  · kaf_pre
  · kaf_pre
  · kaf_pre
  refine k HX (fun x => x = mv ∨ x = nm ∨ x = dp) f0 ⟨GOk.one, DOk.one, dx, mv, nm, dp, [p3], [(gkey ([], []), t, V.int 0)], f1, f2, .cons ⟨p1, p2, f3, f4, f5⟩ .nil, ⟨f6, fun x hx => ?_⟩, rfl, fun g => ?_, f10, .inl rfl, .inr (.inl rfl), .inr (.inr rfl), w4.symm, fun _ h => h⟩ fun x hx => ?_
  · cases List.mem_singleton.mp hx
    exact ⟨GAt.nk (g := ([], [])) ⟨p4, p5, f7, f8, f9⟩, gkey_depth _⟩
  · by_cases e : g = ([], [])
    · subst e; rfl
    · have e' : ¬ gkey ([], []) = gkey g := fun z => e (gkey_inj z).symm
      rw [if_neg (by simpa using e)]
      simp [nval, e']
  · rcases hx with rfl | rfl | rfl <;> assumption
theorem mak_Book {c : Cn} {mg : Str → Option Value} {base : Heap} (T : Txt c mg) : Mak c.P c.w c.K mg base CX0 1 "Book" c.cBook (sp_Book_init c) := by
  obtain ⟨f, fd, F, g, b⟩ := T.F_Book_init
  exact ⟨f, fd, ["self"], g, F.ok (k := 0) (N := N_Book_init) sc_Book_init (fun vs H Q E h => h.1) (fun cdv A outer s H vs Q E hr h => ⟨t_Book_init c, by
  exact (pss_cons (ps_fld (pv 0) (pe_lst (pa_cons (pe_tup (pa_cons (pe_tup pa_nil) (pa_cons (pe_tup pa_nil) pa_nil))) pa_nil)) rfl)
  (pss_cons (ps_fld (pv 0) (pe_disp1 (hu64 hr) (pe_tup (pa_cons (pe_tup pa_nil) (pa_cons (pe_tup pa_nil) pa_nil))) pe_int) rfl)
  (pss_one (ps_fld (pv 0) (pe_lst (pa_cons pe_int pa_nil)) rfl)))), p_Book_init T h⟩), T.g_Book, b⟩
abbrev N_Book_many : List Str := ["self"]
theorem sc_Book_many : FnScope N_Book_many ["self"] (defScope s_Book_many) := ⟨rfl, rfl, rfl, by decide +kernel, rfl, by decide +kernel, by decide +kernel⟩
def t_Book_many (c : Cn) : TS :=
  (tRet (tCB (kLen c.K) (tCons (tFld c.K (tVar 0) "moves") tNil)))
def sp_Book_many (c : Cn) : Sp := fun vs H Q E => vs.length = 1 ∧ ∃ (b : Addr) (M : Addr → Prop) (gs : List Gm) (ds : List Int), vs = [.ref b] ∧ BookAt c H b M gs ds ∧ Q (.int gs.length) H
theorem p_Book_many {c : Cn} {mg : Str → Option Value} (T : Txt c mg) {vs : List V} {H : Hp} {Q : VK} {E : XK} (h : sp_Book_many c vs H Q E) : t_Book_many c { nx := fun _ H' => Q .non H', rt := Q } (start N_Book_many vs) H := by
  obtain ⟨_, b, M, gs, ds, rfl, B, k⟩ := h
  obtain ⟨dx, mv, nm, dp, ts, xs, h1, h2, h3, h4, h5, h6, h7, m1, m2, m3, ne, h8⟩ := B.ex
  unfold t_Book_many
  repeat kaf_suf
  rw [List.length_map, Paired.length h3]
  exact k
theorem met_Book_many {c : Cn} {mg : Str → Option Value} {base : Heap} (T : Txt c mg) : Met c.P c.w c.K mg base CX0 1 c.cBook "many" (sp_Book_many c) := by
  obtain ⟨f, fd, F, g, b⟩ := T.F_Book_many
  exact ⟨f, fd, ["self"], T.cl_Book, g, F.ok (k := 0) (N := N_Book_many) sc_Book_many (fun vs H Q E h => h.1) (fun cdv A outer s H vs Q E hr h => ⟨t_Book_many c, by
  exact (pss_one (ps_ret (pe_callB k_len (by rfl) T.n_len (by decide +kernel) (pa_cons (pe_fld (pv 0) rfl) pa_nil)))), p_Book_many T h⟩), b⟩

/-! rows of games: a list of pairs of lists -/
def dInts (l : List Int) : PyData := .list (l.map PyData.int)
def dRow (g : Gm) : PyData := .tuple [dInts g.1, dInts g.2]
theorem eqv_ints : ∀ ns ms : List Int, PyData.eqvAll (ns.map PyData.int) (ms.map PyData.int) = decide (ns = ms)
  | [], [] => by simp [PyData.eqvAll]
  | [], _ :: _ => by simp [PyData.eqvAll]
  | _ :: _, [] => by simp [PyData.eqvAll]
  | a :: r, b :: t => by
    simp only [List.map_cons, PyData.eqvAll, PyData.eqv, eqv_ints r t]
    by_cases h : a = b <;> by_cases h' : r = t <;> simp [h, h']
theorem eqv_dInts (a b : List Int) : PyData.eqv (dInts a) (dInts b) = decide (a = b) := by
  unfold dInts; simp only [PyData.eqv]; exact eqv_ints a b
theorem eqv_dRow (g k : Gm) : PyData.eqv (dRow g) (dRow k) = decide (g = k) := by
  have e : PyData.eqv (dRow g) (dRow k) = (PyData.eqv (dInts g.1) (dInts k.1) && (PyData.eqv (dInts g.2) (dInts k.2) && true)) := by simp only [dRow, PyData.eqv, PyData.eqvAll]
  rw [e, eqv_dInts, eqv_dInts]
  obtain ⟨a, b⟩ := g; obtain ⟨a', b'⟩ := k
  by_cases h : a = a' <;> by_cases h' : b = b' <;> simp [h, h']
theorem lay_ints : ∀ ns : List Int, PyData.canLayAll0 (ns.map PyData.int) = true
  | [] => by simp [PyData.canLayAll0]
  | _ :: r => by simp [PyData.canLayAll0, PyData.canLay0, lay_ints r]
theorem dpt_ints : ∀ ns : List Int, PyData.depthAll (ns.map PyData.int) = 0
  | [] => by simp [PyData.depthAll]
  | _ :: r => by simp [PyData.depthAll, PyData.depth, dpt_ints r]
theorem dInts_lay (l : List Int) : (dInts l).canLay0 = true := by unfold dInts; simp only [PyData.canLay0]; exact lay_ints l
theorem dInts_dep (l : List Int) : (dInts l).depth = 1 := by unfold dInts; simp only [PyData.depth, dpt_ints]
theorem dRow_lay (g : Gm) : (dRow g).canLay0 = true := by simp [dRow, PyData.canLay0, PyData.canLayAll0, dInts_lay]
theorem dRow_dep (g : Gm) : (dRow g).depth = 2 := by simp [dRow, PyData.depth, PyData.depthAll, dInts_dep]
theorem dRows_lay : ∀ gs : List Gm, PyData.canLayAll0 (gs.map dRow) = true
  | [] => by simp [PyData.canLayAll0]
  | g :: r => by simp [PyData.canLayAll0, dRow_lay g, dRows_lay r]
theorem dRows_dep : ∀ gs : List Gm, PyData.depthAll (gs.map dRow) ≤ 2
  | [] => by simp [PyData.depthAll]
  | g :: r => by
    have h1 := dRows_dep r
    have h2 := dRow_dep g
    simp only [List.map_cons, PyData.depthAll]; omega
theorem shaped_of {d : PyData} (h : d.canLay0 = true) (k : d.depth ≤ 64) : SeqAt.shaped d = true := by
  show (d.canLay0 && decide (d.depth ≤ 64)) = true
  rw [Bool.and_eq_true]
  exact ⟨h, decide_eq_true k⟩
theorem dInts_sh (l : List Int) : SeqAt.shaped (dInts l) = true := shaped_of (dInts_lay l) (by rw [dInts_dep]; omega)
theorem dRow_sh (g : Gm) : SeqAt.shaped (dRow g) = true := shaped_of (dRow_lay g) (by rw [dRow_dep]; omega)
theorem dRows_sh (gs : List Gm) : SeqAt.shaped (.list (gs.map dRow)) = true := shaped_of (by simp only [PyData.canLay0]; exact dRows_lay gs) (by have := dRows_dep gs; simp only [PyData.depth]; omega)
theorem dTwo_sh (a b : List Int) : SeqAt.shaped (.list [dInts a, dInts b]) = true := shaped_of (by simp [PyData.canLay0, PyData.canLayAll0, dInts_lay]) (by simp [PyData.depth, PyData.depthAll, dInts_dep])
theorem eqv_two (a b a' b' : List Int) : PyData.eqv (.list [dInts a, dInts b]) (.list [dInts a', dInts b']) = (decide (a = a') && decide (b = b')) := by
  simp only [PyData.eqv, PyData.eqvAll, eqv_dInts, Bool.and_true]
theorem dp_all {K : PySem.W.Frag} {H : Hp} : ∀ (l : List Int), DpAll K H (l.map V.int) (l.map PyData.int)
  | [] => .nil
  | x :: r => .cons (.int x) (dp_all r)
theorem dp_ints {K : PySem.W.Frag} {H : Hp} {a : Addr} {l : List Int} (h : H a = some (.lst (l.map V.int))) : Dp K H (.ref a) (dInts l) := .lst (SqL.of h) (dp_all l)
theorem dp_two {K : PySem.W.Frag} {H : Hp} {p a b : Addr} {l m : List Int} (h : H p = some (.lst [.ref a, .ref b])) (h1 : H a = some (.lst (l.map V.int))) (h2 : H b = some (.lst (m.map V.int))) : Dp K H (.ref p) (.list [dInts l, dInts m]) :=
  .lst (SqL.of h) (.cons (dp_ints h1) (.cons (dp_ints h2) .nil))
def RowAt (W : Addr → Prop) (H : Hp) (t : Addr) (g : Gm) : Prop := ∃ a b, H t = some (.tup [.ref a, .ref b]) ∧ H a = some (.lst (g.1.map V.int)) ∧ H b = some (.lst (g.2.map V.int)) ∧ ¬ W t ∧ ¬ W a ∧ ¬ W b
theorem RowAt.keep {W : Addr → Prop} {H H' : Hp} {t : Addr} {g : Gm} (r : RowAt W H t g) (k : Keep W H H') : RowAt W H' t g := by
  obtain ⟨a, b, h1, h2, h3, n1, n2, n3⟩ := r
  exact ⟨a, b, k _ _ n1 h1, k _ _ n2 h2, k _ _ n3 h3, n1, n2, n3⟩
theorem RowAt.dp {K : PySem.W.Frag} {W : Addr → Prop} {H : Hp} {t : Addr} {g : Gm} (r : RowAt W H t g) : Dp K H (.ref t) (dRow g) := by
  obtain ⟨a, b, h1, h2, h3, _⟩ := r
  exact .tup (SqT.of h1) (.cons (dp_ints h2) (.cons (dp_ints h3) .nil))
def RowsAt (W : Addr → Prop) (H : Hp) (R : Addr) (gs : List Gm) : Prop := ∃ ks : List Addr, H R = some (.lst (ks.map V.ref)) ∧ Paired (RowAt W H) ks gs
theorem rows_dp {K : PySem.W.Frag} {W : Addr → Prop} {H : Hp} {ks : List Addr} {gs : List Gm} (p : Paired (RowAt W H) ks gs) : DpAll K H (ks.map V.ref) (gs.map dRow) := by
  induction p with
  | nil => exact .nil
  | cons r _ ih => exact .cons r.dp ih
theorem RowsAt.dp {K : PySem.W.Frag} {W : Addr → Prop} {H : Hp} {R : Addr} {gs : List Gm} (r : RowsAt W H R gs) : Dp K H (.ref R) (.list (gs.map dRow)) := by
  obtain ⟨ks, h, p⟩ := r
  exact .lst (SqL.of h) (rows_dp p)
theorem any_row (gs : List Gm) (k : Gm) : ((gs.map dRow).any fun z => PyData.eqv z (dRow k)) = decide (k ∈ gs) := by
  rw [List.any_map]
  have e : ((fun z => PyData.eqv z (dRow k)) ∘ dRow) = fun g => decide (g = k) := by funext g; exact eqv_dRow g k
  rw [e]
  by_cases h : k ∈ gs
  · rw [decide_eq_true h]; exact List.any_eq_true.mpr ⟨k, h, by simp⟩
  · rw [decide_eq_false h]; exact List.any_eq_false.mpr fun x hx => by simp; intro z; exact h (z ▸ hx)
theorem v_ninRows {P : Program} {w : World} {K : PySem.W.Frag} {W : Addr → Prop} {H : Hp} {Q : VK} {t R : Addr} {k : Gm} {gs : List Gm} (r : RowsAt W H R gs) (h : RowAt W H t k) (q : Q (.bl (!decide (k ∈ gs))) H) : cNotIn P w K (.ref t) (.ref R) H Q :=
  .inr (.inl ⟨_, _, h.dp, r.dp, dRow_sh _, dRows_sh _, by rw [any_row]; exact q⟩)
theorem v_indexRows {K : PySem.W.Frag} {W : Addr → Prop} {H : Hp} {Q : VK} {t R : Addr} {k : Gm} {gs : List Gm} (r : RowsAt W H R gs) (h : RowAt W H t k) (m : k ∈ gs) (q : Q (.int (ixG gs k)) H) : kIndex K (.ref R) [.ref t] H Q := by
  refine .inr ⟨R, .ref t, dRow k, gs.map dRow, ixG gs k, dRow k, rfl, rfl, r.dp, h.dp, dRows_sh _, dRow_sh _, ?_, by rw [eqv_dRow]; simp, fun j z hj hz => ?_, q⟩
  · rw [List.getElem?_map, ixG_get m]; rfl
  · rw [List.getElem?_map] at hz
    obtain ⟨g, hg, rfl⟩ := Option.map_eq_some_iff.mp hz
    rw [eqv_dRow]
    refine decide_eq_false fun e => ?_
    subst e
    obtain ⟨hl, hg⟩ := List.getElem?_eq_some_iff.mp hg
    have := List.not_of_lt_findIdx (p := fun x => x == g) (xs := gs) (i := j) hj
    simp [hg] at this
theorem up_len : ∀ (l : List Int) (lo n : Int), l.Pairwise (· < ·) → (∀ x ∈ l, lo ≤ x ∧ x < n) → lo ≤ n → (l.length : Int) ≤ n - lo
  | [], lo, n, _, _, h => by simp; omega
  | x :: r, lo, n, u, b, _ => by
    have u' := List.pairwise_cons.mp u
    have bx := b x List.mem_cons_self
    have := up_len r (x + 1) n u'.2 (fun y hy => ⟨by have := u'.1 y hy; omega, (b y (List.mem_cons_of_mem _ hy)).2⟩) (by omega)
    simp only [List.length_cons]; omega
/-- the deck, the book and the rows, apart -/
def Wd (MD MB : Addr → Prop) (R : Addr) : Addr → Prop := fun x => MD x ∨ MB x ∨ x = R
structure Lv (c : Cn) (H : Hp) (d b R : Addr) (MD MB : Addr → Prop) (rs gs : List Gm) (ds : List Int) : Prop where
  D : DeckAt H d MD
  B : BookAt c H b MB gs ds
  rows : RowsAt (Wd MD MB R) H R rs
  s1 : ∀ x, MB x → ¬ MD x
  s2 : ¬ MD R
  s3 : ¬ MB R
theorem DeckAt.cell {H : Hp} {d : Addr} {M : Addr → Prop} (D : DeckAt H d M) {x : Addr} (h : M x) : ∃ l, H x = some (.lst l) := by
  obtain ⟨pl, ps, i, h1, _, h2, _, _, _, _, h3, h4⟩ := D.ex
  rcases h4 x h with rfl | rfl | hx
  · exact ⟨_, h1⟩
  · exact ⟨_, h2⟩
  · obtain ⟨_, _, _, a, b, k, e⟩ := h3 x hx
    exact ⟨_, e⟩
theorem RowsAt.keep {W : Addr → Prop} {H H' : Hp} {R : Addr} {gs : List Gm} (r : RowsAt W H R gs) (k : Keep W H H') (e : ∀ o, H R = some o → H' R = some o) : RowsAt W H' R gs := by
  obtain ⟨ks, h, p⟩ := r
  exact ⟨ks, e _ h, paired_keep p fun t g q => q.keep k⟩
section
variable {c : Cn} {H H' : Hp} {d b R : Addr} {MD MB : Addr → Prop} {rs gs : List Gm} {ds : List Int}
theorem Lv.draw (L : Lv c H d b R MD MB rs gs ds) (k : Keep MD H H') (D' : DeckAt H' d MD) : Lv c H' d b R MD MB rs gs ds :=
  ⟨D', L.B.keep k (fun _ h => L.D.cell h) L.s1, L.rows.keep (k.mono fun _ h => .inl h) fun o h => k _ _ L.s2 h, L.s1, L.s2, L.s3⟩
theorem Lv.same (L : Lv c H d b R MD MB rs gs ds) (k : Keep Nil H H') : Lv c H' d b R MD MB rs gs ds := L.draw k.weak (L.D.keep k fun _ _ z => z)
theorem Lv.game (L : Lv c H d b R MD MB rs gs ds) {gs' : List Gm} {ds' : List Int} (k : Keep MB H H') (B' : BookAt c H' b MB gs' ds') : Lv c H' d b R MD MB rs gs' ds' :=
  ⟨L.D.keep k fun x h z => L.s1 x z h, B', L.rows.keep (k.mono fun _ h => .inr (.inl h)) fun o h => k _ _ L.s3 h, L.s1, L.s2, L.s3⟩
theorem Lv.new (L : Lv c H d b R MD MB rs gs ds) {x : Addr} (h : H x = none) : ¬ Wd MD MB R x := by
  rintro (z | z | z)
  · exact L.D.new h z
  · exact L.B.new h z
  · obtain ⟨ks, e, _⟩ := L.rows
    rw [z, e] at h; cases h
theorem Lv.tupN (L : Lv c H d b R MD MB rs gs ds) {x : Addr} {l : List V} (h : H x = some (.tup l)) : ¬ Wd MD MB R x := by
  rintro (z | z | z)
  · obtain ⟨l, e⟩ := L.D.cell z; rw [h] at e; cases e
  · exact L.B.tupN h z
  · obtain ⟨ks, e, _⟩ := L.rows
    rw [z, e] at h; cases h
theorem Lv.set (L : Lv c H d b R MD MB rs gs ds) {x : Addr} {l m : List V} (h : H x = some (.lst l)) (n : ¬ Wd MD MB R x) (nr : ∀ t g, RowAt (Wd MD MB R) H t g → ∀ a b, H t = some (.tup [.ref a, .ref b]) → a ≠ x ∧ b ≠ x) : Lv c (upd H x (.lst m)) d b R MD MB rs gs ds := by
  have k : Keep (fun a => a = x) H (upd H x (.lst m)) := Keep.refl.set rfl
  obtain ⟨ks, e, p⟩ := L.rows
  refine ⟨L.D.keep k fun y h z => n (.inl (z ▸ h)), L.B.keep k (fun y z => ⟨_, z ▸ h⟩) fun y h z => n (.inr (.inl (z ▸ h))), ⟨ks, get_set (fun z => n (.inr (.inr z.symm))) e, paired_keep p fun t g q => ?_⟩, L.s1, L.s2, L.s3⟩
  obtain ⟨a', b', h1, h2, h3, n1, n2, n3⟩ := id q
  obtain ⟨z1, z2⟩ := nr t g q a' b' h1
  exact ⟨a', b', get_set (lt_ne h h1) h1, get_set z1 h2, get_set z2 h3, n1, n2, n3⟩
theorem Lv.push (L : Lv c H d b R MD MB rs gs ds) {ks : List Addr} {t : Addr} {k : Gm} (h : H R = some (.lst (ks.map V.ref))) (r : RowAt (Wd MD MB R) H t k) : Lv c (upd H R (.lst (ks.map V.ref ++ [.ref t]))) d b R MD MB (rs ++ [k]) gs ds := by
  have kR : Keep (fun a => a = R) H (upd H R (.lst (ks.map V.ref ++ [.ref t]))) := Keep.refl.set rfl
  have kW := kR.mono (N := Wd MD MB R) fun _ h => .inr (.inr h)
  obtain ⟨ks', h', p⟩ := L.rows
  rw [h] at h'
  have e : ks = ks' := by
    have : ks.map V.ref = ks'.map V.ref := by injection h' with h'; injection h'
    exact List.map_inj_right (fun a b z => by injection z) |>.mp this
  subst e
  refine ⟨L.D.keep kR fun y h z => L.s2 (z ▸ h), L.B.keep kR (fun y z => ⟨_, z ▸ h⟩) fun y h z => L.s3 (z ▸ h), ⟨ks ++ [t], ?_, Paired.snoc (paired_keep p fun t g q => q.keep kW) (r.keep kW)⟩, L.s1, L.s2, L.s3⟩
  rw [List.map_append]; exact upd_same
end

/-! the moves as they are told -/
abbrev N_Book_lefts : List Str := ["self", "g"]
theorem sc_Book_lefts : FnScope N_Book_lefts ["self", "g"] (defScope s_Book_lefts) := ⟨rfl, rfl, rfl, by decide +kernel, rfl, by decide +kernel, by decide +kernel⟩
def t_Book_lefts (c : Cn) : TS :=
  (tSeq (tDrop (tMeth c.cBook "need" (sp_Book_need c) [] E0 (tVar 0) (tCons (tVar 1) tNil)))
  (tRet (tCB (kList c.K) (tCons (tOp (bIx c.P c.w c.K) (tOp (bIx c.P c.w c.K) (tFld c.K (tVar 0) "moves") (tVar 1)) (tC (.int 0))) tNil))))
def sp_Book_lefts (c : Cn) : Sp := fun vs H Q E => vs.length = 2 ∧ ∃ (b : Addr) (M : Addr → Prop) (gs : List Gm) (ds : List Int) (g : Nat) (gm : Gm), vs = [.ref b, .int g] ∧ BookAt c H b M gs ds ∧ gs[g]? = some gm ∧ ∀ p, H p = none → Q (.ref p) (upd H p (.lst (gm.1.map V.int)))
theorem p_Book_lefts {c : Cn} {mg : Str → Option Value} (T : Txt c mg) {vs : List V} {H : Hp} {Q : VK} {E : XK} (h : sp_Book_lefts c vs H Q E) : t_Book_lefts c { nx := fun _ H' => Q .non H', rt := Q } (start N_Book_lefts vs) H := by
  obtain ⟨_, b, M, gs, ds, g, gm, rfl, B, hg, k⟩ := h
  obtain ⟨dx, mv, nm, dp, ts, xs, h1, h2, h3, h4, h5, h6, h7, m1, m2, m3, ne, h8⟩ := B.ex
  have hl := (List.getElem?_eq_some_iff.mp hg).1
  unfold t_Book_lefts
  repeat kaf_suf
  refine ⟨rfl, b, M, gs, ds, g, rfl, B, by omega, by omega, ?_⟩
  obtain ⟨t, ht, ka, kb, t1, t2, t3⟩ := paired_get h3 hg
  have hx : atI (ts.map V.ref) (g : Int) = some (V.ref t) := atI_get (n := g) (by rw [List.getElem?_map, ht]; rfl) rfl
  repeat kaf_suf
  exact k
theorem met_Book_lefts {c : Cn} {mg : Str → Option Value} {base : Heap} (T : Txt c mg) : Met c.P c.w c.K mg base CX0 2 c.cBook "lefts" (sp_Book_lefts c) := by
  obtain ⟨f, fd, F, g, b⟩ := T.F_Book_lefts
  exact ⟨f, fd, ["self", "g"], T.cl_Book, g, F.ok (k := 1) (N := N_Book_lefts) sc_Book_lefts (fun vs H Q E h => h.1) (fun cdv A outer s H vs Q E hr h => ⟨t_Book_lefts c, by
  exact (pss_cons (ps_expr (e_meth (met_Book_need T) hr (by decide) pass0 (pv 0) (pa_cons (pv 1) pa_nil)))
  (pss_one (ps_ret (pe_callTy (k_list rfl) (by rfl) T.n_list (by decide +kernel) (pa_cons (pe_ix (x_ix (hu64 hr)) (pe_ix (x_ix (hu64 hr)) (pe_fld (pv 0) rfl) (pv 1) (fun _ _ => rfl)) pe_int (fun _ _ => rfl)) pa_nil))))), p_Book_lefts T h⟩), b⟩
abbrev N_Book_rights : List Str := ["self", "g"]
theorem sc_Book_rights : FnScope N_Book_rights ["self", "g"] (defScope s_Book_rights) := ⟨rfl, rfl, rfl, by decide +kernel, rfl, by decide +kernel, by decide +kernel⟩
def t_Book_rights (c : Cn) : TS :=
  (tSeq (tDrop (tMeth c.cBook "need" (sp_Book_need c) [] E0 (tVar 0) (tCons (tVar 1) tNil)))
  (tRet (tCB (kList c.K) (tCons (tOp (bIx c.P c.w c.K) (tOp (bIx c.P c.w c.K) (tFld c.K (tVar 0) "moves") (tVar 1)) (tC (.int 1))) tNil))))
def sp_Book_rights (c : Cn) : Sp := fun vs H Q E => vs.length = 2 ∧ ∃ (b : Addr) (M : Addr → Prop) (gs : List Gm) (ds : List Int) (g : Nat) (gm : Gm), vs = [.ref b, .int g] ∧ BookAt c H b M gs ds ∧ gs[g]? = some gm ∧ ∀ p, H p = none → Q (.ref p) (upd H p (.lst (gm.2.map V.int)))
theorem p_Book_rights {c : Cn} {mg : Str → Option Value} (T : Txt c mg) {vs : List V} {H : Hp} {Q : VK} {E : XK} (h : sp_Book_rights c vs H Q E) : t_Book_rights c { nx := fun _ H' => Q .non H', rt := Q } (start N_Book_rights vs) H := by
  obtain ⟨_, b, M, gs, ds, g, gm, rfl, B, hg, k⟩ := h
  obtain ⟨dx, mv, nm, dp, ts, xs, h1, h2, h3, h4, h5, h6, h7, m1, m2, m3, ne, h8⟩ := B.ex
  have hl := (List.getElem?_eq_some_iff.mp hg).1
  unfold t_Book_rights
  repeat kaf_suf
  refine ⟨rfl, b, M, gs, ds, g, rfl, B, by omega, by omega, ?_⟩
  obtain ⟨t, ht, ka, kb, t1, t2, t3⟩ := paired_get h3 hg
  have hx : atI (ts.map V.ref) (g : Int) = some (V.ref t) := atI_get (n := g) (by rw [List.getElem?_map, ht]; rfl) rfl
  repeat kaf_suf
  exact k
theorem met_Book_rights {c : Cn} {mg : Str → Option Value} {base : Heap} (T : Txt c mg) : Met c.P c.w c.K mg base CX0 2 c.cBook "rights" (sp_Book_rights c) := by
  obtain ⟨f, fd, F, g, b⟩ := T.F_Book_rights
  exact ⟨f, fd, ["self", "g"], T.cl_Book, g, F.ok (k := 1) (N := N_Book_rights) sc_Book_rights (fun vs H Q E h => h.1) (fun cdv A outer s H vs Q E hr h => ⟨t_Book_rights c, by
  exact (pss_cons (ps_expr (e_meth (met_Book_need T) hr (by decide) pass0 (pv 0) (pa_cons (pv 1) pa_nil)))
  (pss_one (ps_ret (pe_callTy (k_list rfl) (by rfl) T.n_list (by decide +kernel) (pa_cons (pe_ix (x_ix (hu64 hr)) (pe_ix (x_ix (hu64 hr)) (pe_fld (pv 0) rfl) (pv 1) (fun _ _ => rfl)) pe_int (fun _ _ => rfl)) pa_nil))))), p_Book_rights T h⟩), b⟩

/-! the depth as it is told -/
abbrev N_Book_depth : List Str := ["self", "g"]
theorem sc_Book_depth : FnScope N_Book_depth ["self", "g"] (defScope s_Book_depth) := ⟨rfl, rfl, rfl, by decide +kernel, rfl, by decide +kernel, by decide +kernel⟩
def t_Book_depth (c : Cn) : TS :=
  (tSeq (tDrop (tMeth c.cBook "need" (sp_Book_need c) [] E0 (tVar 0) (tCons (tVar 1) tNil)))
  (tRet (tOp (bIx c.P c.w c.K) (tFld c.K (tVar 0) "depths") (tVar 1))))
def sp_Book_depth (c : Cn) : Sp := fun vs H Q E => vs.length = 2 ∧ ∃ (b : Addr) (M : Addr → Prop) (gs : List Gm) (ds : List Int) (g : Nat) (e : Int), vs = [.ref b, .int g] ∧ BookAt c H b M gs ds ∧ ds[g]? = some e ∧ Q (.int e) H
theorem p_Book_depth {c : Cn} {mg : Str → Option Value} (T : Txt c mg) {vs : List V} {H : Hp} {Q : VK} {E : XK} (h : sp_Book_depth c vs H Q E) : t_Book_depth c { nx := fun _ H' => Q .non H', rt := Q } (start N_Book_depth vs) H := by
  obtain ⟨_, b, M, gs, ds, g, e, rfl, B, hg, k⟩ := h
  obtain ⟨dx, mv, nm, dp, ts, xs, h1, h2, h3, h4, h5, h6, h7, m1, m2, m3, ne, h8⟩ := B.ex
  have hl := (List.getElem?_eq_some_iff.mp hg).1
  have hn := B.dok.len
  unfold t_Book_depth
  repeat kaf_suf
  refine ⟨rfl, b, M, gs, ds, g, rfl, B, by omega, by omega, ?_⟩
  have hx : atI (ds.map V.int) (g : Int) = some (V.int e) := atI_get (n := g) (by rw [List.getElem?_map, hg]; rfl) rfl
  repeat kaf_suf
  exact k
theorem met_Book_depth {c : Cn} {mg : Str → Option Value} {base : Heap} (T : Txt c mg) : Met c.P c.w c.K mg base CX0 2 c.cBook "depth" (sp_Book_depth c) := by
  obtain ⟨f, fd, F, g, b⟩ := T.F_Book_depth
  exact ⟨f, fd, ["self", "g"], T.cl_Book, g, F.ok (k := 1) (N := N_Book_depth) sc_Book_depth (fun vs H Q E h => h.1) (fun cdv A outer s H vs Q E hr h => ⟨t_Book_depth c, by
  exact (pss_cons (ps_expr (e_meth (met_Book_need T) hr (by decide) pass0 (pv 0) (pa_cons (pv 1) pa_nil)))
  (pss_one (ps_ret (pe_ix (x_ix (hu64 hr)) (pe_fld (pv 0) rfl) (pv 1) (fun _ _ => rfl))))), p_Book_depth T h⟩), b⟩
theorem DOk.pos {gs : List Gm} {ds : List Int} (o : GOk gs) (d : DOk gs ds) : ∀ (n i : Nat), i < n → ∀ e, ds[i]? = some e → 0 ≤ e
  | 0, _, h, _, _ => by omega
  | n + 1, i, h, e, he => by
    have hi := (List.getElem?_eq_some_iff.mp he).1
    obtain ⟨g, hg⟩ : ∃ g, gs[i]? = some g := ⟨_, List.getElem?_eq_getElem (by rw [← d.len]; exact hi)⟩
    obtain ⟨d1, _, d3⟩ := d.at_ i _ e hg he
    by_cases z : g.1 ++ g.2 = []
    · have := d1 z; omega
    · obtain ⟨x, hx, ex⟩ := d3 z
      obtain ⟨m, hm, rfl⟩ := List.mem_map.mp hx
      obtain ⟨l0, l1⟩ := o.low i _ hg m hm
      have : 0 ≤ ds[m.toNat]?.getD 0 := by
        cases q : ds[m.toNat]? with
        | none => simp
        | some v => exact DOk.pos o d n m.toNat (by omega) v q
      omega

/-! some moves among many -/
abbrev N_law_moves : List Str := ["deck", "many", "found", "k", "one", "near"]
theorem sc_law_moves : FnScope N_law_moves ["deck", "many"] (defScope s_law_moves) := ⟨rfl, rfl, rfl, by decide +kernel, rfl, by decide +kernel, by decide +kernel⟩
def t_law_moves (c : Cn) : TS :=
  (tSeq (tAsg (tLst tNil) (gName 2))
  (tSeq (tFor (iRng1 (tCons (tOp (bIx c.P c.w c.K) (tLst (tCons (tC (.int 0)) (tCons (tC (.int 1)) (tCons (tC (.int 1)) (tCons (tC (.int 2)) (tCons (tC (.int 2)) (tCons (tC (.int 3)) (tCons (tC (.int 4)) tNil)))))))) (tCall (sp_law_draw c) [] E0 (tCons (tVar 0) (tCons (tC (.int 7)) tNil)))) tNil)) (gName 3)
  (tSeq (tAsg (tCall (sp_law_draw c) [] E0 (tCons (tVar 0) (tCons (tVar 1) tNil))) (gName 4))
  (tSeq (tAsg (tOp bSub (tOp bSub (tVar 1) (tC (.int 1))) (tCall (sp_law_draw c) [] E0 (tCons (tVar 0) (tCons (tCB (kMin c.K) (tCons (tVar 1) (tCons (tC (.int 3)) tNil))) tNil)))) (gName 5))
  (tDrop (tBM c.K "list" rAppend (tVar 2) (tCons (tOp (bIx c.P c.w c.K) (tLst (tCons (tVar 4) (tCons (tVar 5) tNil))) (tCall (sp_law_draw c) [] E0 (tCons (tVar 0) (tCons (tC (.int 2)) tNil)))) tNil))))))
  (tRet (tVar 2))))
def sp_law_moves (c : Cn) : Sp := fun vs H Q E => vs.length = 2 ∧ ∃ (d : Addr) (m : Int) (M : Addr → Prop), vs = [.ref d, .int m] ∧ 1 ≤ m ∧ m < 2000 ∧ DeckAt H d M ∧
  ∀ (H' : Hp) (l : Addr) (ms : List Int), Keep M H H' → DeckAt H' d M → H l = none → H' l = some (.lst (ms.map V.int)) → ms.length ≤ 4 → (∀ x ∈ ms, 0 ≤ x ∧ x < m) → Q (.ref l) H'
theorem p_law_moves {c : Cn} {mg : Str → Option Value} (T : Txt c mg) {vs : List V} {H : Hp} {Q : VK} {E : XK} (h : sp_law_moves c vs H Q E) : t_law_moves c { nx := fun _ H' => Q .non H', rt := Q } (start N_law_moves vs) H := by
  obtain ⟨_, d, m, M, rfl, m1, m2, D, k⟩ := h
  unfold t_law_moves
  repeat kaf_suf
  intro l hl
  repeat kaf_suf
  intro p1 hp1
  repeat kaf_suf
  have D1 : DeckAt (upd (upd H l (.lst [])) p1 (.lst [.int 0, .int 1, .int 1, .int 2, .int 2, .int 3, .int 4])) d M := D.keep (Keep.new (Keep.alloc hl) hp1) (fun _ _ z => z)
  refine ⟨rfl, d, 7, M, rfl, by decide, by decide, D1, fun H1 n kp1 D1 n0 n1 => ?_⟩
  obtain ⟨z, hz, z0, z1⟩ : ∃ z : Int, atI [V.int 0, V.int 1, V.int 1, V.int 2, V.int 2, V.int 3, V.int 4] n = some (V.int z) ∧ 0 ≤ z ∧ z ≤ 4 := by
    have : n = 0 ∨ n = 1 ∨ n = 2 ∨ n = 3 ∨ n = 4 ∨ n = 5 ∨ n = 6 := by omega
    rcases this with rfl | rfl | rfl | rfl | rfl | rfl | rfl
    · exact ⟨0, rfl, by decide, by decide⟩
    · exact ⟨1, rfl, by decide, by decide⟩
    · exact ⟨1, rfl, by decide, by decide⟩
    · exact ⟨2, rfl, by decide, by decide⟩
    · exact ⟨2, rfl, by decide, by decide⟩
    · exact ⟨3, rfl, by decide, by decide⟩
    · exact ⟨4, rfl, by decide, by decide⟩
  have np1 : ¬ M p1 := D.new (none_of_upd hp1)
  have nl : ¬ M l := D.new hl
  repeat kaf_suf
  refine for_range (lo := 0) (n := z.toNat) (fun i σ H' => ∃ (ms : List Int) (a b c : Option V), σ = [some (.ref d), some (.int m), some (.ref l), a, b, c] ∧ H' l = some (.lst (ms.map V.int)) ∧ ms.length = i ∧ (∀ x ∈ ms, 0 ≤ x ∧ x < m) ∧ Keep M H H' ∧ DeckAt H' d M) ⟨[], _, _, _, rfl, by kaf_pre, rfl, fun _ z => (nomatch z), ((Keep.alloc hl).new hp1 |>.trans kp1), D1⟩ ?_ ?_
  · rintro i σ H2 hi ⟨ms, a, b, c', rfl, e1, e2, e3, k2, D2⟩
    repeat kaf_suf
    refine ⟨rfl, d, m, M, rfl, m1, by omega, D2, fun H3 one kp3 D3 o0 o1 => ?_⟩
    repeat kaf_suf
    have tm : 1 ≤ (if (3 : Int) < m then 3 else m) ∧ (if (3 : Int) < m then 3 else m) ≤ 3 ∧ (if (3 : Int) < m then 3 else m) ≤ m := by split <;> omega
    refine ⟨rfl, d, _, M, rfl, tm.1, by omega, D3, fun H4 w kp4 D4 w0 w1 => ?_⟩
    repeat kaf_suf
    intro p2 hp2
    repeat kaf_suf
    have D5 := D4.keep (Keep.alloc (o := .lst [.int one, .int (m - 1 - w)]) hp2) (fun _ _ z => z)
    refine ⟨rfl, d, 2, M, rfl, by decide, by decide, D5, fun H6 u kp6 D6 u0 u1 => ?_⟩
    have np2 : ¬ M p2 := D4.new hp2
    obtain ⟨y, hy, y0, y1⟩ : ∃ y : Int, atI [V.int one, V.int (m - 1 - w)] u = some (V.int y) ∧ 0 ≤ y ∧ y < m := by
      have : u = 0 ∨ u = 1 := by omega
      rcases this with rfl | rfl
      · exact ⟨one, rfl, o0, o1⟩
      · exact ⟨_, rfl, by omega, by omega⟩
    repeat kaf_suf
    refine ⟨ms ++ [y], _, _, _, rfl, ?_, by simp [e2], fun x hx => ?_, (((k2.trans kp3).trans kp4).new hp2 |>.trans kp6).setN hl, D6.keep (N := fun x => x = l) (Keep.refl.set rfl) fun x hx e => nl (e ▸ hx)⟩
    · rw [List.map_append]; exact upd_same
    · rcases List.mem_append.mp hx with hx | hx
      · exact e3 x hx
      · cases List.mem_singleton.mp hx; exact ⟨y0, y1⟩
  · rintro σ H2 ⟨ms, a, b, c', rfl, e1, e2, e3, k2, D2⟩
    repeat kaf_suf
    exact k H2 l ms k2 D2 hl e1 (by omega) e3
theorem cal_law_moves {c : Cn} {mg : Str → Option Value} {base : Heap} (T : Txt c mg) : Cal c.P c.w c.K mg base CX0 2 "_law_moves" (sp_law_moves c) := by
  obtain ⟨f, fd, F, g, b⟩ := T.F_law_moves
  exact ⟨f, fd, ["deck", "many"], F.ok (k := 1) (N := N_law_moves) sc_law_moves (fun vs H Q E h => h.1) (fun cdv A outer s H vs Q E hr h => ⟨t_law_moves c, by
  exact (pss_cons (ps_set (i := 2) sc_law_moves.nd rfl (Or.inl rfl) (pe_lst pa_nil))
  (pss_cons (ps_for PassesOwn.never rfl (pi_range1 rfl T.n_range (pa_cons (pe_ix (x_ix (hu64 hr)) (pe_lst (pa_cons pe_int (pa_cons pe_int (pa_cons pe_int (pa_cons pe_int (pa_cons pe_int (pa_cons pe_int (pa_cons pe_int pa_nil)))))))) (e_call (cal_law_draw T) hr (by decide) pass0 rfl (pa_cons (pv 0) (pa_cons pe_int pa_nil))) (fun _ _ => rfl)) pa_nil)) (pg_name (i := 3) sc_law_moves.nd rfl (Or.inl rfl))
  (pss_cons (ps_set (i := 4) sc_law_moves.nd rfl (Or.inl rfl) (e_call (cal_law_draw T) hr (by decide) pass0 rfl (pa_cons (pv 0) (pa_cons (pv 1) pa_nil))))
  (pss_cons (ps_set (i := 5) sc_law_moves.nd rfl (Or.inl rfl) (pe_op o_sub (pe_op o_sub (pv 1) pe_int) (e_call (cal_law_draw T) hr (by decide) pass0 rfl (pa_cons (pv 0) (pa_cons (pe_callB (k_min rfl) (by rfl) T.n_min (by decide +kernel) (pa_cons (pv 1) (pa_cons pe_int pa_nil))) pa_nil)))))
  (pss_one (ps_expr (pe_bm PySem.F.plainAttrs_list PySem.F.slot_list_append PySem.F.type_list_append mt_append (pv 2) (pa_cons (pe_ix (x_ix (hu64 hr)) (pe_lst (pa_cons (pv 4) (pa_cons (pv 5) pa_nil))) (e_call (cal_law_draw T) hr (by decide) pass0 rfl (pa_cons (pv 0) (pa_cons pe_int pa_nil))) (fun _ _ => rfl)) pa_nil)))))))
  (pss_one (ps_ret (pv 2))))), p_law_moves T h⟩), g, F.kp, b⟩

/-! a book grown out of the deck -/
abbrev N_law_grown : List Str := ["deck", "book", "many", "rows", "k", "lefts", "rights", "told", "key"]
theorem sc_law_grown : FnScope N_law_grown ["deck", "book", "many"] (defScope s_law_grown) := ⟨rfl, rfl, rfl, by decide +kernel, rfl, by decide +kernel, by decide +kernel⟩
def t_law_grown (c : Cn) : TS :=
  (tSeq (tAsg (tLst (tCons (tTup (tCons (tLst tNil) (tCons (tLst tNil) tNil))) tNil)) (gName 3))
  (tSeq (tFor (iRng1 (tCons (tVar 2) tNil)) (gName 4)
  (tSeq (tAsg (tCall (sp_law_moves c) [] E0 (tCons (tVar 0) (tCons (tCB (kLen c.K) (tCons (tVar 3) tNil)) tNil))) (gName 5))
  (tSeq (tAsg (tCall (sp_law_moves c) [] E0 (tCons (tVar 0) (tCons (tCB (kLen c.K) (tCons (tVar 3) tNil)) tNil))) (gName 6))
  (tSeq (tAsg (tMeth c.cBook "game" (sp_Book_game c) [] E0 (tVar 1) (tCons (tCB (kList c.K) (tCons (tVar 5) tNil)) (tCons (tCB (kList c.K) (tCons (tVar 6) tNil)) tNil))) (gName 7))
  (tSeq (tAsg (tTup (tCons (tCB (kSorted c.K c.w) (tCons (tCB (uSetI c.K c.w) (tCons (tVar 5) tNil)) tNil)) (tCons (tCB (kSorted c.K c.w) (tCons (tCB (uSetI c.K c.w) (tCons (tVar 6) tNil)) tNil)) tNil))) (gName 8))
  (C8.tCut (tIfS (tTest (tOp (cNotIn c.P c.w c.K) (tVar 8) (tVar 3)))
  (tDrop (tBM c.K "list" rAppend (tVar 3) (tCons (tVar 8) tNil)))
  tNext)
  (tIfS (tTest (tOp (cNe c.K) (tVar 7) (tBM c.K "list" (kIndex c.K) (tVar 3) (tCons (tVar 8) tNil))))
  (tRet (tC .non))
  tNext)))))))
  (tRet (tVar 3))))
def sp_law_grown (c : Cn) : Sp := fun vs H Q E => vs.length = 3 ∧ ∃ (d b : Addr) (m : Int) (MD MB : Addr → Prop), vs = [.ref d, .ref b, .int m] ∧ 0 ≤ m ∧ m ≤ 60 ∧ DeckAt H d MD ∧ BookAt c H b MB [([], [])] [0] ∧ (∀ x, MB x → ¬ MD x) ∧
  ∀ (H' : Hp) (R : Addr) (gs : List Gm) (ds : List Int), Lv c H' d b R MD MB gs gs ds → (gs.length : Int) ≤ m + 1 → Q (.ref R) H'
theorem p_law_grown {c : Cn} {mg : Str → Option Value} (T : Txt c mg) {vs : List V} {H : Hp} {Q : VK} {E : XK} (h : sp_law_grown c vs H Q E) : t_law_grown c { nx := fun _ H' => Q .non H', rt := Q } (start N_law_grown vs) H := by
  obtain ⟨_, d, b, m, MD, MB, rfl, m0, m1, D2, B2, nbD, k⟩ := h
  unfold t_law_grown
  repeat kaf_suf
  intro e1 he1
  repeat kaf_suf
  intro e2 he2
  repeat kaf_suf
  intro e3 he3
  repeat kaf_suf
  intro R hR
  have kR : Keep Nil H (upd (upd (upd (upd H e1 (.lst [])) e2 (.lst [])) e3 (.tup [.ref e1, .ref e2])) R (.lst [.ref e3])) := (((Keep.alloc he1).new he2).new he3).new hR
  have hR2 : H R = none := none_of_upd (none_of_upd (none_of_upd hR))
  have nw : ∀ x, H x = none → x ≠ R → ¬ Wd MD MB R x := fun x h n z => z.elim (D2.new h) fun z => z.elim (B2.new h) n
  have ne1 : e1 ≠ R := ne_old hR (by kaf_pre)
  have ne2 : e2 ≠ R := ne_old hR (by kaf_pre)
  have ne3 : e3 ≠ R := ne_old hR (by kaf_pre)
  have L3 : Lv c (upd (upd (upd (upd H e1 (.lst [])) e2 (.lst [])) e3 (.tup [.ref e1, .ref e2])) R (.lst [.ref e3])) d b R MD MB [([], [])] [([], [])] [0] :=
    ⟨D2.keep kR fun _ _ z => z, B2.same kR, ⟨[e3], upd_same, .cons ⟨e1, e2, by kaf_pre, by kaf_pre, by kaf_pre, nw _ (none_of_upd (none_of_upd he3)) ne3, nw _ he1 ne1, nw _ (none_of_upd he2) ne2⟩ .nil⟩, nbD, D2.new hR2, B2.new hR2⟩
  generalize upd (upd (upd (upd H e1 (.lst [])) e2 (.lst [])) e3 (.tup [.ref e1, .ref e2])) R (.lst [.ref e3]) = H3 at L3 ⊢
  clear kR hR2 nw ne1 ne2 ne3 he1 he2 he3 hR D2 B2
  repeat kaf_suf
  refine for_range (lo := 0) (n := m.toNat) (fun i σ H' => ∃ (x4 x5 x6 x7 x8 : Option V) (gs : List Gm) (ds : List Int), σ = [some (.ref d), some (.ref b), some (.int m), some (.ref R), x4, x5, x6, x7, x8] ∧ Lv c H' d b R MD MB gs gs ds ∧ gs.length ≤ i + 1) ⟨_, _, _, _, _, _, _, rfl, L3, by simp⟩ ?_ ?_
  · rintro i σ H5 hi ⟨x4, x5, x6, x7, x8, gs, ds, rfl, L5, hg⟩
    obtain ⟨ks, hks, pks⟩ := id L5.rows
    have pos := L5.B.pos
    have hkl : ks.length = gs.length := Paired.length pks
    have hkm : (ks.map V.ref).length = gs.length := by rw [List.length_map, hkl]
    have gi : gs.length ≤ 60 := by omega
    repeat kaf_suf
    refine ⟨rfl, d, _, MD, rfl, by omega, by omega, L5.D, fun H6 l ls k6 D6 nl hl ll lb => ?_⟩
    have L6 := L5.draw k6 D6
    have hks6 := k6 _ _ L5.s2 hks
    have nl6 := L5.new nl
    repeat kaf_suf
    refine ⟨rfl, d, _, MD, rfl, by omega, by omega, L6.D, fun H7 r rs k7 D7 nr hr rl rb => ?_⟩
    have L7 := L6.draw k7 D7
    have hks7 := k7 _ _ L6.s2 hks6
    have nr7 := L6.new nr
    have hl7 : H7 l = some (.lst (ls.map V.int)) := k7 _ _ (fun z => nl6 (.inl z)) hl
    have lb' : ∀ x ∈ ls, 0 ≤ x ∧ x < gs.length := fun x hx => by have := lb x hx; omega
    have rb' : ∀ x ∈ rs, 0 ≤ x ∧ x < gs.length := fun x hx => by have := rb x hx; omega
    obtain ⟨bx0, bm0, bn0, bd0, hb7⟩ := L7.B.ins_
    clear k6 k7 L6 D6 D7 hl lb rb L5 pks hks6 hks
    repeat kaf_suf
    intro y1 hy1
    repeat kaf_suf
    intro y2 hy2
    have ny1 := L7.new hy1
    have ny2 := L7.new (none_of_upd hy2)
    have y12 : y1 ≠ y2 := ne_old hy2 upd_same
    repeat kaf_suf
    have kY : Keep Nil H7 (upd (upd H7 y1 (.lst (ls.map V.int))) y2 (.lst (rs.map V.int))) := (Keep.alloc hy1).new hy2
    refine ⟨rfl, b, y1, y2, MB, gs, ds, ls, rs, rfl, L7.B.same kY, by kaf_pre, by kaf_pre, fun z => ny1 (.inr (.inl z)), fun z => ny2 (.inr (.inl z)), by omega, by omega, by omega, fun x hx => ?_, fun H8 e k8 B8 => ?_⟩
    · rcases List.mem_append.mp hx with hx | hx
      · exact lb' x hx
      · exact rb' x hx
    have L8 := (L7.same kY).game k8 B8
    have kw8 : Keep MB H7 H8 := kY.weak.trans k8
    have al8 := kw8 _ _ (fun z => nl6 (.inr (.inl z))) hl7
    have ar8 := kw8 _ _ (fun z => nr7 (.inr (.inl z))) hr
    have hks8 := kw8 _ _ L7.s3 hks7
    clear kY k8 kw8 B8 hl7 hr hks7 L7 hb7 hy1 hy2
    have w1 : ls.length ≤ 4000 := by omega
    have w2 : rs.length ≤ 4000 := by omega
    repeat kaf_suf
    intro p4 c4 hp4 _
    repeat kaf_suf
    intro ns4 p5 u4 m4 _ hp5
    repeat kaf_suf
    intro p7 c7 hp7 _
    repeat kaf_suf
    intro ns7 p8 u7 m7 _ hp8
    repeat kaf_suf
    intro t ht
    repeat kaf_suf
    obtain rfl : ns4 = canon ls := canon_eq u4 (by simpa using m4)
    obtain rfl : ns7 = canon rs := canon_eq u7 (by simpa using m7)
    refine absS (S := fun HT => Keep Nil H8 HT ∧ HT t = some (.tup [.ref p5, .ref p8]) ∧ HT p5 = some (.lst ((canon ls).map V.int)) ∧ HT p8 = some (.lst ((canon rs).map V.int))) ⟨?_, upd_same, by kaf_pre, by kaf_pre⟩ fun H9 ⟨k9, t1, t2, t3⟩ => ?_
    · exact ((((Keep.alloc hp4).new hp5).new hp7).new hp8).new ht
    have rt : RowAt (Wd MD MB R) H9 t (canon ls, canon rs) := ⟨p5, p8, t1, t2, t3, L8.new (none_of_upd (none_of_upd (none_of_upd (none_of_upd ht)))), L8.new (none_of_upd hp5), L8.new (none_of_upd (none_of_upd (none_of_upd hp8)))⟩
    have L9 := L8.same k9
    obtain ⟨ks9, hks9, pks9⟩ := id L9.rows
    have hkl9 : ks9.length = gs.length := Paired.length pks9
    have mem := addG_mem gs (canon ls, canon rs)
    have gl := addG_len (gs := gs) (k := (canon ls, canon rs))
    clear hp4 hp5 hp7 hp8 ht k9 L8 m4 m7 u4 u7 al8 ar8 hks8
    refine ⟨fun σ' H' => ∃ x4 x5 x6, σ' = [some (.ref d), some (.ref b), some (.int m), some (.ref R), x4, x5, x6, some (.int (ixG (addG gs (canon ls, canon rs)) (canon ls, canon rs))), some (.ref t)] ∧ Keep (Wd MD MB R) H9 H' ∧ Lv c H' d b R MD MB (addG gs (canon ls, canon rs)) (addG gs (canon ls, canon rs)) (ds ++ e), ?_, ?_⟩
    · repeat kaf_suf
      refine v_ninRows L9.rows rt ?_
      repeat kaf_suf
      refine r_iteN (fun e => ?_) (fun e => ?_)
      · repeat kaf_suf
        refine ⟨_, _, _, rfl, Keep.refl.set (.inr (.inr rfl)), ?_⟩
        have := L9.push hks9 rt
        rw [addG, if_neg e] at this ⊢
        exact this
      · repeat kaf_suf
        refine ⟨_, _, _, rfl, Keep.refl, ?_⟩
        have := L9
        rw [addG, if_pos e] at this ⊢
        exact this
    · rintro σ' H10 ⟨x4, x5, x6, rfl, k10, L10⟩
      have rt10 := rt.keep k10
      obtain ⟨ks10, hks10, pks10⟩ := id L10.rows
      generalize addG gs (canon ls, canon rs) = gs' at L10 mem gl pks10 ⊢
      clear k10 hks9 pks9 L9 rt t1 t2 t3
      repeat kaf_suf
      refine v_indexRows L10.rows rt10 mem ?_
      repeat kaf_suf
      exact ⟨_, _, _, _, _, gs', _, rfl, L10, by omega⟩
  · rintro σ H5 ⟨x4, x5, x6, x7, x8, gs, ds, rfl, L5, hg⟩
    repeat kaf_suf
    exact k H5 R gs ds L5 (by omega)
theorem cal_law_grown {c : Cn} {mg : Str → Option Value} {base : Heap} (T : Txt c mg) : Cal c.P c.w c.K mg base CX0 3 "_law_grown" (sp_law_grown c) := by
  obtain ⟨f, fd, F, g, b⟩ := T.F_law_grown
  exact ⟨f, fd, ["deck", "book", "many"], F.ok (k := 2) (N := N_law_grown) sc_law_grown (fun vs H Q E h => h.1) (fun cdv A outer s H vs Q E hr h => ⟨t_law_grown c, by
  exact (pss_cons (ps_set (i := 3) sc_law_grown.nd rfl (Or.inl rfl) (pe_lst (pa_cons (pe_tup (pa_cons (pe_lst pa_nil) (pa_cons (pe_lst pa_nil) pa_nil))) pa_nil)))
  (pss_cons (ps_for PassesOwn.never rfl (pi_range1 rfl T.n_range (pa_cons (pv 2) pa_nil)) (pg_name (i := 4) sc_law_grown.nd rfl (Or.inl rfl))
  (pss_cons (ps_set (i := 5) sc_law_grown.nd rfl (Or.inl rfl) (e_call (cal_law_moves T) hr (by decide) pass0 rfl (pa_cons (pv 0) (pa_cons (pe_callB k_len (by rfl) T.n_len (by decide +kernel) (pa_cons (pv 3) pa_nil)) pa_nil))))
  (pss_cons (ps_set (i := 6) sc_law_grown.nd rfl (Or.inl rfl) (e_call (cal_law_moves T) hr (by decide) pass0 rfl (pa_cons (pv 0) (pa_cons (pe_callB k_len (by rfl) T.n_len (by decide +kernel) (pa_cons (pv 3) pa_nil)) pa_nil))))
  (pss_cons (ps_set (i := 7) sc_law_grown.nd rfl (Or.inl rfl) (e_meth (met_Book_game T) hr (by decide) pass0 (pv 1) (pa_cons (pe_callTy (k_list rfl) (by rfl) T.n_list (by decide +kernel) (pa_cons (pv 5) pa_nil)) (pa_cons (pe_callTy (k_list rfl) (by rfl) T.n_list (by decide +kernel) (pa_cons (pv 6) pa_nil)) pa_nil))))
  (pss_cons (ps_set (i := 8) sc_law_grown.nd rfl (Or.inl rfl) (pe_tup (pa_cons (pe_callB (k_sorted rfl) (by rfl) T.n_sorted (by decide +kernel) (pa_cons (pe_callTy (k_set rfl) (by rfl) T.n_set (by decide +kernel) (pa_cons (pv 5) pa_nil)) pa_nil)) (pa_cons (pe_callB (k_sorted rfl) (by rfl) T.n_sorted (by decide +kernel) (pa_cons (pe_callTy (k_set rfl) (by rfl) T.n_set (by decide +kernel) (pa_cons (pv 6) pa_nil)) pa_nil)) pa_nil))))
  (C8.pss_cut (ps_if (pt_cmpR (o_notin (hu65 hr)) (pv 8) (pv 3) (by rfl)) (pss_one (ps_expr (pe_bm PySem.F.plainAttrs_list PySem.F.slot_list_append PySem.F.type_list_append mt_append (pv 3) (pa_cons (pv 8) pa_nil)))) pss_nil)
  (pss_one (ps_if (pt_cmpR (o_ne (hu64 hr)) (pv 7) (pe_bm PySem.F.plainAttrs_list PySem.F.slot_list_index PySem.F.type_list_index (mt_kindex (hu65 hr)) (pv 3) (pa_cons (pv 8) pa_nil)) (nomark _)) (pss_one (ps_ret pe_non)) pss_nil))))))))
  (pss_one (ps_ret (pv 3))))), p_law_grown T h⟩), g, F.kp, b⟩

/-! plain helpers -/
theorem any_eq {α : Type} {f g : α → Bool} : ∀ {l : List α}, (∀ m ∈ l, f m = g m) → l.any f = l.any g
  | [], _ => rfl
  | x :: r, h => by rw [List.any_cons, List.any_cons, h x List.mem_cons_self, any_eq fun m hm => h m (List.mem_cons_of_mem _ hm)]
def mvs (gs : List Gm) (g : Nat) (s : Bool) : List Int := match gs[g]? with
  | some x => if s then x.1 else x.2
  | none => []
theorem mvs_low {gs : List Gm} (o : GOk gs) {g : Nat} {s : Bool} {m : Int} (h : m ∈ mvs gs g s) : 0 ≤ m ∧ m < g ∧ g < gs.length := by
  unfold mvs at h
  cases e : gs[g]? with
  | none => rw [e] at h; simp at h
  | some x =>
    rw [e] at h
    have hl := (List.getElem?_eq_some_iff.mp e).1
    have := o.low g x e m (by
      cases s
      · simp at h; simp [h]
      · simp at h; simp [h])
    omega
theorem mvs_more {gs f : List Gm} {g : Nat} {s : Bool} (h : g < gs.length) : mvs (gs ++ f) g s = mvs gs g s := by
  unfold mvs; rw [List.getElem?_append_left h]
theorem nodup_le {α : Type} [DecidableEq α] : ∀ (l m : List α), l.Nodup → (∀ x ∈ l, x ∈ m) → l.length ≤ m.length
  | [], _, _, _ => Nat.zero_le _
  | x :: l, m, nd, h => by
    have nd' := List.nodup_cons.mp nd
    have hx := h x List.mem_cons_self
    have := nodup_le l (m.erase x) nd'.2 fun y hy => by
      have hm := h y (List.mem_cons_of_mem _ hy)
      exact (List.mem_erase_of_ne (fun (e : y = x) => nd'.1 (by rw [← e]; exact hy))).mpr hm
    rw [List.length_erase_of_mem hx] at this
    have := List.length_pos_of_mem hx
    simp only [List.length_cons]; omega
theorem nval_nput {xs : List NX} {k : NestedKey} {a : Addr} {v : V} : nval (nput xs k a v) k = some v := by
  unfold nput
  split
  · rename_i h
    clear a
    have go : ∀ xs : List NX, (nval xs k).isSome = true → nval (xs.map fun x => if x.1 = k then (x.1, x.2.1, v) else x) k = some v := fun xs => by
      unfold nval
      induction xs with
      | nil => intro h; simp at h
      | cons p q ih =>
        intro h
        rw [List.map_cons]
        by_cases e : p.1 = k
        · rw [if_pos e, List.find?_cons_of_pos (by simp [e])]; rfl
        · rw [if_neg e, List.find?_cons_of_neg (by simp [e])]
          rw [List.find?_cons_of_neg (by simp [e])] at h
          exact ih h
    exact go xs h
  · rename_i h
    rw [nval_snoc]
    have : nval xs k = none := by
      cases e : nval xs k with
      | none => rfl
      | some v => rw [e] at h; simp at h
    rw [this]; simp
theorem nval_mem {xs : List NX} {k : NestedKey} {v : V} (h : nval xs k = some v) : ∃ x ∈ xs, x.1 = k ∧ x.2.2 = v := by
  unfold nval at h
  obtain ⟨x, hx, rfl⟩ := Option.map_eq_some_iff.mp h
  exact ⟨x, List.mem_of_find?_eq_some hx, by simpa using List.find?_some hx, rfl⟩
theorem nval_none {xs : List NX} {k : NestedKey} (h : nval xs k = none) : ∀ x ∈ xs, x.1 ≠ k := fun x hx e => by
  unfold nval at h
  rw [Option.map_eq_none_iff] at h
  have := List.find?_eq_none.mp h x hx
  simp [e] at this
theorem any_filter {α : Type} [DecidableEq α] {p : α → Bool} : ∀ (l : List α), l.any p = !decide (l.filter p = [])
  | [] => by simp
  | x :: r => by
    by_cases h : p x = true
    · simp [h]
    · simp only [Bool.not_eq_true] at h
      rw [List.any_cons, h, Bool.false_or, any_filter r]
      simp [List.filter_cons, h]
theorem BookAt.keepX {c : Cn} {H H' : Hp} {b : Addr} {M N : Addr → Prop} {gs : List Gm} {ds : List Int} (B : BookAt c H b M gs ds) (k : Keep N H H') (n : ∀ x, N x → ∃ φ, H x = some (.ext φ)) (d : ∀ x, M x → ¬ N x) : BookAt c H' b M gs ds := by
  obtain ⟨dx, mv, nm, dp, ts, xs, h1, h2, h3, h4, h5, h6, h7, m1, m2, m3, ne, h8⟩ := B.ex
  have kt : ∀ q ys, H q = some (.tup ys) → H' q = some (.tup ys) := fun q ys e => k _ _ (fun z => by obtain ⟨l, e'⟩ := n q z; rw [e] at e'; cases e') e
  refine ⟨B.ok, B.dok, dx, mv, nm, dp, ts, xs, k _ _ (fun z => ?_) h1, k _ _ (d _ m1) h2, paired_keep h3 fun t g q => q.keep kt, ⟨k _ _ (d _ m2) h4.here, fun x hx => ⟨NkV.keeps kt _ _ (h4.keys x hx).1, (h4.keys x hx).2⟩⟩, h5, h6, k _ _ (d _ m3) h7, m1, m2, m3, ne, h8⟩
  obtain ⟨l, e'⟩ := n b z; rw [h1] at e'; cases e'
theorem v_setN' {P : Program} {w : World} {H : Hp} {Q : Hp → Prop} {p a : Addr} {k : NestedKey} {xs : List NX} {v : V} (N : NdAt P w H a xs) (kp : NkV H k (.ref p)) (d : k.depth ≤ 8) (l : xs.length < sizeLine) (q : Q (upd H a (NdO P w a (nput xs k p v)))) : bSet P w (.ref a) (.ref p) v H Q := v_setN N kp d l q
theorem BookAt.keepY {c : Cn} {H H' : Hp} {b : Addr} {M N : Addr → Prop} {gs : List Gm} {ds : List Int} (B : BookAt c H b M gs ds) (k : Keep N H H') (n : ∀ x, N x → (∀ l, H x ≠ some (.tup l)) ∧ ∀ C d l, H x ≠ some (.ins C d l)) (d : ∀ x, M x → ¬ N x) : BookAt c H' b M gs ds := by
  obtain ⟨dx, mv, nm, dp, ts, xs, h1, h2, h3, h4, h5, h6, h7, m1, m2, m3, ne, h8⟩ := B.ex
  have kt : ∀ q ys, H q = some (.tup ys) → H' q = some (.tup ys) := fun q ys e => k _ _ (fun z => (n q z).1 _ e) e
  exact ⟨B.ok, B.dok, dx, mv, nm, dp, ts, xs, k _ _ (fun z => (n b z).2 _ _ _ h1) h1, k _ _ (d _ m1) h2, paired_keep h3 fun t g q => q.keep kt, ⟨k _ _ (d _ m2) h4.here, fun x hx => ⟨NkV.keeps kt _ _ (h4.keys x hx).1, (h4.keys x hx).2⟩⟩, h5, h6, k _ _ (d _ m3) h7, m1, m2, m3, ne, h8⟩
abbrev KX := Key × V
theorem valV_mem {kvs : List KX} {k : Key} {v : V} (h : valV kvs k = some v) : ∃ x ∈ kvs, x.1 = k ∧ x.2 = v := by
  unfold valV at h
  obtain ⟨x, hx, rfl⟩ := Option.map_eq_some_iff.mp h
  exact ⟨x, List.mem_of_find?_eq_some hx, by simpa using List.find?_some hx, rfl⟩
theorem valV_none {kvs : List KX} {k : Key} (h : valV kvs k = none) : ∀ x ∈ kvs, x.1 ≠ k := fun x hx e => by
  unfold valV at h
  rw [Option.map_eq_none_iff] at h
  have := List.find?_eq_none.mp h x hx
  simp [e] at this
theorem putK_new {kvs : List KX} {k : Key} {v : V} (h : valV kvs k = none) : putK kvs k v = kvs ++ [(k, v)] := by
  unfold putK
  rw [if_neg]
  intro z
  obtain ⟨x, hx, e⟩ := List.any_eq_true.mp z
  exact valV_none h x hx (by simpa using e)
theorem putK_val {kvs : List KX} {k : Key} {v : V} : valV (putK kvs k v) k = some v := by
  unfold putK
  split
  · rename_i h
    induction kvs with
    | nil => simp at h
    | cons p q ih =>
      rw [List.map_cons]
      by_cases e : p.1 = k
      · rw [if_pos e]; exact valV_pos e
      · rw [if_neg e, valV_neg e]
        exact ih (by simpa [e] using h)
  · rename_i h
    unfold valV
    rw [List.find?_append]
    have : kvs.find? (fun kv => decide (kv.1 = k)) = none := List.find?_eq_none.mpr fun x hx z => h (List.any_eq_true.mpr ⟨x, hx, z⟩)
    rw [this]; simp
theorem putK_len {kvs : List KX} {k : Key} {v : V} : kvs.length ≤ (putK kvs k v).length := by
  unfold putK; split <;> simp
theorem addG_grow {gs : List Gm} {k : Gm} : ∃ f, addG gs k = gs ++ f ∧ f.length ≤ 1 ∧ (k ∈ gs → f = []) := by
  unfold addG; split
  · exact ⟨[], by simp, by simp, fun _ => rfl⟩
  · rename_i h
    exact ⟨[k], rfl, by simp, fun z => absurd z h⟩
theorem DOk.move {gs : List Gm} {ds : List Int} (o : GOk gs) (d : DOk gs ds) {g : Nat} {gm : Gm} {dg : Int} (hg : gs[g]? = some gm) (hd : ds[g]? = some dg) {m : Int} (hm : m ∈ gm.1 ++ gm.2) : ∃ dm, ds[m.toNat]? = some dm ∧ dm + 1 ≤ dg := by
  have low := o.low g gm hg m hm
  have lg := (List.getElem?_eq_some_iff.mp hg).1
  have dl := d.len
  obtain ⟨v, hv⟩ : ∃ v, ds[m.toNat]? = some v := ⟨_, List.getElem?_eq_getElem (by omega)⟩
  refine ⟨v, hv, (d.at_ g gm dg hg hd).2.1 v ?_⟩
  unfold dps
  exact List.mem_map.mpr ⟨m, hm, by rw [hv]; rfl⟩
theorem DOk.le {gs : List Gm} {ds : List Int} (o : GOk gs) (d : DOk gs ds) : ∀ (n g : Nat), g < n → ∀ dg, ds[g]? = some dg → dg ≤ g
  | 0, _, h, _, _ => by omega
  | n + 1, g, h, dg, hd => by
    have hl := (List.getElem?_eq_some_iff.mp hd).1
    obtain ⟨gm, hg⟩ : ∃ x, gs[g]? = some x := ⟨_, List.getElem?_eq_getElem (by have := d.len; omega)⟩
    obtain ⟨p1, p2, p3⟩ := d.at_ g gm dg hg hd
    by_cases z : gm.1 ++ gm.2 = []
    · have := p1 z; omega
    · obtain ⟨u, hu, eu⟩ := p3 z
      obtain ⟨m, hm, em⟩ := List.mem_map.mp hu
      have low := o.low g gm hg m hm
      obtain ⟨v, hv⟩ : ∃ v, ds[m.toNat]? = some v := ⟨_, List.getElem?_eq_getElem (by have := d.len; omega)⟩
      have := DOk.le o d n m.toNat (by omega) v hv
      rw [hv] at em
      have em' : v = u := em
      omega
theorem mvs_dep {gs : List Gm} {ds : List Int} (o : GOk gs) (d : DOk gs ds) {g : Nat} {s : Bool} {m : Int} (h : m ∈ mvs gs g s) {dg : Int} (hd : ds[g]? = some dg) : ∃ dm, ds[m.toNat]? = some dm ∧ dm + 1 ≤ dg := by
  obtain ⟨m0, m1, m2⟩ := mvs_low o h
  have e := List.getElem?_eq_getElem m2
  refine d.move o e hd ?_
  unfold mvs at h; rw [e] at h
  cases s
  · exact List.mem_append_right _ (by simpa using h)
  · exact List.mem_append_left _ (by simpa using h)

/-! slices -/
theorem v_slA {K : PySem.W.Frag} {H : Hp} {Q : VK} {l : Addr} {xs : List V} {lo hi : Option Int} (h : H l = some (.tup xs)) (k : ∀ p H', H' p = some (.tup (cutV xs lo hi)) → Keep Nil H H' → Q (.ref p) H') : bSl K (.ref l) lo hi H Q :=
  .inr ⟨l, xs, rfl, SqT.of h, fun e => k l H (by
    have : cutV xs lo hi = xs := by unfold cutV; rw [e.1, e.2]; simp
    rw [this]; exact h) Keep.refl, fun _ p hp => k p _ upd_same (Keep.alloc hp)⟩
theorem cutV_take (xs : List V) (k : Nat) : cutV xs none (some (k : Int)) = xs.take k := by
  unfold cutV
  rw [HT.sIx_nat, HT.sIx_none]
  simp only [List.drop_zero, Nat.sub_zero]
  by_cases h : k ≤ xs.length
  · rw [Nat.min_eq_left h]
  · rw [Nat.min_eq_right (by omega), List.take_of_length_le (Nat.le_refl _), List.take_of_length_le (by omega)]
theorem cutV_drop (xs : List V) (k : Nat) : cutV xs (some (k : Int)) none = xs.drop k := by
  unfold cutV
  rw [HT.sIx_nat, HT.sIx_none]
  by_cases h : k ≤ xs.length
  · rw [Nat.min_eq_left h, List.take_of_length_le (by rw [List.length_drop]; omega)]
  · rw [Nat.min_eq_right (by omega), List.drop_of_length_le (Nat.le_refl _), List.drop_of_length_le (by omega), List.take_nil]

/-! a book is sound -/
theorem v_inRows {P : Program} {w : World} {K : PySem.W.Frag} {W W' : Addr → Prop} {H : Hp} {Q : VK} {t R : Addr} {k : Gm} {gs : List Gm} (r : RowsAt W' H R gs) (h : RowAt W H t k) (q : Q (.bl (decide (k ∈ gs))) H) : cIn P w K (.ref t) (.ref R) H Q :=
  .inr (.inl ⟨_, _, h.dp, r.dp, dRow_sh _, dRows_sh _, by rw [any_row]; exact q⟩)
theorem nd_inj {gs : List Gm} (nd : gs.Nodup) {i j : Nat} {k : Gm} (h1 : gs[i]? = some k) (h2 : gs[j]? = some k) : i = j :=
  (List.getElem?_inj (List.getElem?_eq_some_iff.mp h1).1 nd).mp (h1.trans h2.symm)
theorem not_before {gs : List Gm} (nd : gs.Nodup) {g : Nat} {k : Gm} (h : gs[g]? = some k) : k ∉ gs.take g := fun hm => by
  obtain ⟨j, hj, e⟩ := List.getElem_of_mem hm
  rw [List.length_take] at hj
  have e2 : gs[j]? = some k := by
    rw [List.getElem_take] at e
    rw [List.getElem?_eq_getElem (by omega), e]
  have := nd_inj nd h e2
  omega
theorem idx_of {gs : List Gm} (nd : gs.Nodup) {g : Nat} {k : Gm} (h : gs[g]? = some k) : ixG gs k = g := nd_inj nd (ixG_get (List.mem_of_getElem? h)) h
theorem canon_of {l m : List Int} (u : l.Pairwise (· < ·)) (h : ∀ z, z ∈ m ↔ z ∈ l) : canon m = l := (canon_eq u fun z => (h z).symm).symm
theorem paired_take {α β : Type} {R : α → β → Prop} : ∀ {xs : List α} {ys : List β} (n : Nat), Paired R xs ys → Paired R (xs.take n) (ys.take n)
  | _, _, 0, _ => by simp; exact .nil
  | _, _, _ + 1, .nil => by simp; exact .nil
  | _, _, n + 1, .cons r t => .cons r (paired_take n t)
abbrev N_law_sound : List Str := ["book", "rows", "g", "lefts", "rights", "one"]
theorem sc_law_sound : FnScope N_law_sound ["book"] (defScope s_law_sound) := ⟨rfl, rfl, rfl, by decide +kernel, rfl, by decide +kernel, by decide +kernel⟩
def t_law_sound (c : Cn) : TS :=
  (tSeq (tAsg (tLc (iRng1 (tCons (tMeth c.cBook "many" (sp_Book_many c) [] E0 (tVar 0) tNil) tNil)) (gName 2) tYes (tTup (tCons (tMeth c.cBook "lefts" (sp_Book_lefts c) [] E0 (tVar 0) (tCons (tVar 2) tNil)) (tCons (tMeth c.cBook "rights" (sp_Book_rights c) [] E0 (tVar 0) (tCons (tVar 2) tNil)) tNil))) [2]) (gName 1))
  (tSeq (tFor (iRng1 (tCons (tCB (kLen c.K) (tCons (tVar 1) tNil)) tNil)) (gName 2)
  (tSeq (tAsg (tOp (bIx c.P c.w c.K) (tVar 1) (tVar 2)) (gSeq c.K 2 (gCons (gName 3) (gCons (gName 4) gNil))))
  (tSeq (tIfS (tOr (tTest (tOp (cIn c.P c.w c.K) (tOp (bIx c.P c.w c.K) (tVar 1) (tVar 2)) (tSl (bSl c.K) (tVar 1) tNoPart (tPart (tVar 2))))) (tTest (tOp (cNe c.K) (tLc (iAny c.K (tOp (bAdd c.K) (tVar 3) (tVar 4))) (gName 5) (tTest (tOp cGe (tVar 5) (tVar 2))) (tVar 5) [5]) (tLst tNil))))
  (tRet (tC (.bl false)))
  tNext)
  (tSeq (tIfS (tTest (tOp (cNe c.K) (tMeth c.cBook "depth" (sp_Book_depth c) [] E0 (tVar 0) (tCons (tVar 2) tNil)) (tCB (kMax c.K) (tCons (tOp (bAdd c.K) (tLst (tCons (tC (.int 0)) tNil)) (tLc (iAny c.K (tOp (bAdd c.K) (tVar 3) (tVar 4))) (gName 5) tYes (tOp (bAdd c.K) (tC (.int 1)) (tMeth c.cBook "depth" (sp_Book_depth c) [] E0 (tVar 0) (tCons (tVar 5) tNil))) [5])) tNil))))
  (tRet (tC (.bl false)))
  tNext)
  (tIfS (tTest (tOp (cNe c.K) (tMeth c.cBook "game" (sp_Book_game c) [] E0 (tVar 0) (tCons (tRevL c.K (tVar 3)) (tCons (tOp (bAdd c.K) (tVar 4) (tVar 4)) tNil))) (tVar 2)))
  (tRet (tC (.bl false)))
  tNext)))))
  (tRet (tOp (cEq c.K) (tMeth c.cBook "many" (sp_Book_many c) [] E0 (tVar 0) tNil) (tCB (kLen c.K) (tCons (tVar 1) tNil))))))
def sp_law_sound (c : Cn) : Sp := fun vs H Q E => vs.length = 1 ∧ ∃ (b : Addr) (M : Addr → Prop) (gs : List Gm) (ds : List Int), vs = [.ref b] ∧ BookAt c H b M gs ds ∧ gs.length ≤ 200 ∧ ∀ H', Keep M H H' → BookAt c H' b M gs ds → Q (.bl true) H'
theorem p_law_sound {c : Cn} {mg : Str → Option Value} (T : Txt c mg) {vs : List V} {H : Hp} {Q : VK} {E : XK} (h : sp_law_sound c vs H Q E) : t_law_sound c { nx := fun _ H' => Q .non H', rt := Q } (start N_law_sound vs) H := by
  obtain ⟨_, b, M, gs, ds, rfl, B, few, k⟩ := h
  have hdl := B.dok.len
  obtain ⟨bx0, bm0, bn0, bd0, hb0⟩ := B.ins_
  unfold t_law_sound
  (repeat kaf_suf)
  refine ⟨rfl, b, M, gs, ds, rfl, B, ?_⟩
  (repeat kaf_suf)
  intro R hR
  have nR : ¬ M R := B.new hR
  refine lc_range (lo := 0) (n := (gs.length : Int).toNat) (fun j H' => ∃ qs : List Addr, H' R = some (.lst (qs.map V.ref)) ∧ Paired (RowAt (fun x => M x ∨ x = R) H') qs (gs.take j) ∧ Keep Nil H H') ⟨[], upd_same, .nil, Keep.alloc hR⟩ ?_ ?_
  · rintro j H2 hj ⟨qs, e2, pq, k2⟩
    have hj' : j < gs.length := by omega
    have hgj : gs[j]? = some gs[j] := List.getElem?_eq_getElem hj'
    have B2 := B.same k2
    obtain ⟨bx2, bm2, bn2, bd2, hb2⟩ := B2.ins_
    (repeat kaf_suf)
    refine ⟨rfl, ?_⟩
    (repeat kaf_suf)
    refine ⟨rfl, b, M, _, _, j, gs[j], by rw [Int.zero_add], B2, hgj, fun p1 hp1 => ?_⟩
    (repeat kaf_suf)
    refine ⟨rfl, b, M, _, _, j, gs[j], by rw [Int.zero_add], B2.same (Keep.alloc hp1), hgj, fun p2 hp2 => ?_⟩
    (repeat kaf_suf)
    intro p3 hp3
    (repeat kaf_suf)
    have k3 : Keep Nil H2 (upd (upd (upd H2 p1 (.lst (gs[j].1.map V.int))) p2 (.lst (gs[j].2.map V.int))) p3 (.tup [.ref p1, .ref p2])) := ((Keep.alloc hp1).new hp2).new hp3
    have ql : qs.length ≤ 200 := by
      have := Paired.length pq
      rw [List.length_take] at this; omega
    refine ⟨_, k3.get (fun z => z) e2, few1 (by rw [List.length_map]; omega), qs ++ [p3], by rw [List.map_append]; exact upd_same, ?_, (k2.trans k3).setN hR⟩
    have n1 : p1 ≠ R := ne_new hp1 e2
    have n2 : p2 ≠ R := ne_new hp2 (get_new hp1 e2)
    have n3 : p3 ≠ R := ne_new hp3 (get_new hp2 (get_new hp1 e2))
    have r3 : RowAt (fun x => M x ∨ x = R) (upd (upd (upd H2 p1 (.lst (gs[j].1.map V.int))) p2 (.lst (gs[j].2.map V.int))) p3 (.tup [.ref p1, .ref p2])) p3 gs[j] :=
      ⟨p1, p2, upd_same, by kaf_pre, by kaf_pre, fun z => z.elim (B2.new (none_of_upd (none_of_upd hp3))) n3, fun z => z.elim (B2.new hp1) n1, fun z => z.elim (B2.new (none_of_upd hp2)) n2⟩
    have tk1 : gs.take (j + 1) = gs.take j ++ [gs[j]] := by rw [List.take_succ, List.getElem?_eq_getElem hj']; rfl
    rw [tk1]
    exact Paired.snoc (paired_keep pq fun t g r => (r.keep k3.weak).keep (Keep.refl.set (.inr rfl))) (r3.keep (Keep.refl.set (.inr rfl)))
  rintro H2 ⟨qs, e2, pq, k2⟩
  rw [List.take_of_length_le (by omega)] at pq
  have hql : qs.length = gs.length := Paired.length pq
  have hqm : (qs.map V.ref).length = gs.length := by rw [List.length_map, hql]
  have B2 := B.same k2
  clear hR B hb0
  (repeat kaf_suf)
  refine for_range (lo := 0) (n := ((qs.map V.ref).length : Int).toNat) (fun i σ H' => ∃ x2 x3 x4 : Option V, σ = [some (.ref b), some (.ref R), x2, x3, x4, none] ∧ Keep M H2 H' ∧ BookAt c H' b M gs ds) ⟨_, _, _, rfl, Keep.refl, B2⟩ ?_ ?_
  · rintro i σ H3 hi ⟨x2, x3, x4, rfl, k3, B3⟩
    have hi' : i < gs.length := by omega
    obtain ⟨g, hg⟩ : ∃ g, gs[i]? = some g := ⟨_, List.getElem?_eq_getElem hi'⟩
    have e3 := k3 _ _ nR e2
    have pq3 : Paired (RowAt (fun x => M x ∨ x = R) H3) qs gs := paired_keep pq fun t g r => r.keep (k3.mono fun _ h => .inl h)
    obtain ⟨t, ht, rt⟩ := paired_get pq3 hg
    obtain ⟨ra, rb, t1, t2, t3, nt, na, nb⟩ := id rt
    have hx : atI (qs.map V.ref) (0 + (i : Int)) = some (V.ref t) := atI_get (n := i) (by rw [List.getElem?_map, ht]; rfl) (by omega)
    obtain ⟨bx3, bm3, bn3, bd3, hb3⟩ := B3.ins_
    have low := B3.ok.low i g hg
    have up := B3.ok.up g (List.mem_of_getElem? hg)
    have gl1 := up_len _ 0 gs.length up.1 (fun m hm => by have := low m (List.mem_append_left _ hm); omega) (by omega)
    have gl2 := up_len _ 0 gs.length up.2 (fun m hm => by have := low m (List.mem_append_right _ hm); omega) (by omega)
    obtain ⟨e, he⟩ : ∃ e, ds[i]? = some e := ⟨_, List.getElem?_eq_getElem (by omega)⟩
    (repeat kaf_suf)
    refine r_seqT t1 rfl (r_gcons ?_)
    (repeat kaf_suf)
    refine r_gcons ?_
    (repeat kaf_suf)
    refine r_gnil ?_
    (repeat kaf_suf)
    refine v_slL e3 fun s1 hs1 => ?_
    have ei : (0 + (i : Int)) = (i : Int) := by omega
    rw [ei, cutV_take, ← List.map_take]
    have k4 : Keep Nil H3 (upd H3 s1 (.lst ((qs.take i).map V.ref))) := Keep.alloc hs1
    refine v_inRows (W := fun x => M x ∨ x = R) (W' := fun x => M x ∨ x = R) (gs := gs.take i) ⟨_, upd_same, paired_take i (paired_keep pq3 fun t g r => r.keep k4.weak)⟩ (rt.keep k4.weak) ?_
    rw [decide_eq_false (not_before B3.ok.nd hg)]
    have B4 := B3.same k4
    have t24 := get_new (u := .lst ((qs.take i).map V.ref)) hs1 t2
    have t34 := get_new (u := .lst ((qs.take i).map V.ref)) hs1 t3
    generalize upd H3 s1 (.lst ((qs.take i).map V.ref)) = H4 at k4 B4 t24 t34 ⊢
    clear hs1
    (repeat kaf_suf)
    intro y hy
    have k5 : Keep Nil H4 (upd H4 y (.lst (g.1.map V.int ++ g.2.map V.int))) := Keep.alloc hy
    have hyy : (upd H4 y (.lst (g.1.map V.int ++ g.2.map V.int))) y = some (.lst (g.1.map V.int ++ g.2.map V.int)) := upd_same
    have t25 := get_new (u := .lst (g.1.map V.int ++ g.2.map V.int)) hy t24
    have t35 := get_new (u := .lst (g.1.map V.int ++ g.2.map V.int)) hy t34
    have B5 := B4.same k5
    generalize upd H4 y (.lst (g.1.map V.int ++ g.2.map V.int)) = H5 at k5 hyy t25 t35 B5 ⊢
    clear hy
    (repeat kaf_suf)
    intro D hD
    refine lc_list (xs := g.1.map V.int ++ g.2.map V.int) (fun j H' => H' D = some (.lst []) ∧ Keep Nil H5 H') ⟨upd_same, Keep.alloc hD⟩ ?_ ?_ ?_
    · rintro j H' _ ⟨_, k'⟩; exact SqL.of (k'.get (fun z => z) hyy)
    · rintro j x H' hj ⟨e', k'⟩
      rw [← List.map_append, List.getElem?_map] at hj
      obtain ⟨m, hm, rfl⟩ := Option.map_eq_some_iff.mp hj
      obtain ⟨m0, m1⟩ := low m (List.mem_of_getElem? hm)
      (repeat kaf_suf)
      refine ⟨rfl, ?_⟩
      (repeat kaf_suf)
      exact ⟨e', k'⟩
    rintro H6 ⟨e6, k6⟩
    (repeat kaf_suf)
    intro q hq
    refine v_neD (d := .list []) (e := .list []) (.lst (SqL.of (get_new hq e6)) .nil) (.lst (SqL.of upd_same) .nil) (dInts_sh []) (dInts_sh []) ?_
    refine r_kB (r_ite_nt ?_)
    have k7 : Keep Nil H5 (upd H6 q (.lst [])) := k6.new hq
    have B7 := B5.same k7
    have t27 := k7.get (fun z => z) t25
    have t37 := k7.get (fun z => z) t35
    have kA : Keep M H3 (upd H6 q (.lst [])) := ((k4.trans k5).trans k7).weak
    generalize upd H6 q (.lst []) = H7 at k7 B7 t27 t37 kA ⊢
    clear hq e6 k6 hD hyy k7 k5 k4 B5 B4 t24 t34 t25 t35
    obtain ⟨bx7, bm7, bn7, bd7, hb7⟩ := B7.ins_
    (repeat kaf_suf)
    refine ⟨rfl, b, M, gs, ds, i, e, rfl, B7, he, ?_⟩
    (repeat kaf_suf)
    intro z hz
    (repeat kaf_suf)
    intro y hy
    (repeat kaf_suf)
    intro D hD
    have hyy : (upd (upd H7 z (.lst [.int 0])) y (.lst (g.1.map V.int ++ g.2.map V.int))) y = some (.lst (g.1.map V.int ++ g.2.map V.int)) := upd_same
    have hzz : (upd (upd H7 z (.lst [.int 0])) y (.lst (g.1.map V.int ++ g.2.map V.int))) z = some (.lst [.int 0]) := by kaf_pre
    have kz : Keep Nil H7 (upd (upd H7 z (.lst [.int 0])) y (.lst (g.1.map V.int ++ g.2.map V.int))) := (Keep.alloc hz).new hy
    generalize upd (upd H7 z (.lst [.int 0])) y (.lst (g.1.map V.int ++ g.2.map V.int)) = H8 at hD hyy hzz kz ⊢
    have hlen : ((dps ds (g.1 ++ g.2)).map fun x => 1 + x).length = (g.1 ++ g.2).length := by simp [dps]
    refine lc_list (xs := g.1.map V.int ++ g.2.map V.int) (fun j H3 => H3 D = some (.lst ((((dps ds (g.1 ++ g.2)).map fun x => 1 + x).take j).map V.int)) ∧ Keep Nil H8 H3) ⟨upd_same, Keep.alloc hD⟩ ?_ ?_ ?_
    · rintro j H' _ ⟨_, k'⟩; exact SqL.of (k'.get (fun z => z) hyy)
    · rintro j x H9 hj ⟨e9, k9⟩
      rw [← List.map_append, List.getElem?_map] at hj
      obtain ⟨m, hm, rfl⟩ := Option.map_eq_some_iff.mp hj
      obtain ⟨m0, m1⟩ := low m (List.mem_of_getElem? hm)
      have hm' := (List.getElem?_eq_some_iff.mp hm).1
      rw [List.length_append] at hm'
      obtain ⟨n, rfl⟩ := Int.eq_ofNat_of_zero_le m0
      have hn : n < ds.length := by omega
      have B9 := B7.same (kz.trans k9)
      obtain ⟨bx9, bm9, bn9, bd9, hb9⟩ := B9.ins_
      (repeat kaf_suf)
      refine ⟨rfl, ?_⟩
      (repeat kaf_suf)
      refine ⟨rfl, b, M, gs, ds, n, ds[n], rfl, B9, List.getElem?_eq_getElem hn, ?_⟩
      (repeat kaf_suf)
      refine ⟨_, e9, few1 (by simp; omega), ?_, k9.setN hD⟩
      rw [upd_same]
      have ee : ((dps ds (g.1 ++ g.2)).map fun x => 1 + x)[j]? = some (1 + ds[n]) := by
        rw [List.getElem?_map, dps, List.getElem?_map, hm]; simp [hn]
      rw [List.take_succ, ee]; simp
    rintro H9 ⟨e9, k9⟩
    have e10 : H9 D = some (.lst (((dps ds (g.1 ++ g.2)).map fun x => 1 + x).map V.int)) := by
      rw [e9, List.take_of_length_le (by rw [hlen]; simp)]
    have hz9 := k9.get (fun z => z) hzz
    refine v_addL hz9 e10 (few2 (by simp [dps]; omega)) fun y2 hy2 => ?_
    (repeat kaf_suf)
    refine v_maxL (ns := 0 :: (dps ds (g.1 ++ g.2)).map fun x => 1 + x) upd_same (by simp) fun m hm hmax => ?_
    have em : e = m := by
      obtain ⟨d1, d2, d3⟩ := B3.dok.at_ i g e hg he
      have p0 := DOk.pos B3.ok B3.dok (i + 1) i (by omega) e he
      have h1 : m ≤ e := by
        rcases List.mem_cons.mp hm with h | h
        · omega
        · obtain ⟨x, hx, rfl⟩ := List.mem_map.mp h
          have := d2 x hx; omega
      have h2 : e ≤ m := by
        by_cases z : g.1 ++ g.2 = []
        · have := d1 z
          have := hmax 0 List.mem_cons_self
          omega
        · obtain ⟨x, hx, ex⟩ := d3 z
          have := hmax (1 + x) (List.mem_cons_of_mem _ (List.mem_map.mpr ⟨x, hx, rfl⟩))
          omega
      omega
    have kB : Keep Nil H7 (upd H9 y2 (.lst ([.int 0] ++ ((dps ds (g.1 ++ g.2)).map fun x => 1 + x).map V.int))) := (kz.trans k9).new hy2
    have B11 := B7.same kB
    have t211 := kB.get (fun z => z) t27
    have t311 := kB.get (fun z => z) t37
    have kC := kA.trans kB.weak
    generalize upd H9 y2 (.lst ([.int 0] ++ ((dps ds (g.1 ++ g.2)).map fun x => 1 + x).map V.int)) = H11 at kB B11 t211 t311 kC ⊢
    clear hm hmax hy2 hz9 e10 e9 k9 hD hyy hzz kz hy hz hb7 B7 t27 t37 kA kB
    obtain ⟨bxB, bmB, bnB, bdB, hbB⟩ := B11.ins_
    (repeat kaf_suf)
    refine r_krev t211 fun v1 hv1 => ?_
    (repeat kaf_suf)
    intro v2 hv2
    rw [← List.map_reverse] at *
    have kk := (Keep.alloc (M := Nil) (o := .lst (g.1.reverse.map V.int)) hv1).new (o := .lst (g.2.map V.int ++ g.2.map V.int)) hv2
    (repeat kaf_suf)
    have c1 : canon g.1.reverse = g.1 := canon_of up.1 fun z => List.mem_reverse
    have c2 : canon (g.2 ++ g.2) = g.2 := canon_of up.2 fun z => by rw [List.mem_append, or_self]
    refine ⟨rfl, b, v1, v2, M, gs, ds, g.1.reverse, g.2 ++ g.2, rfl, B11.same kk, by kaf_pre, by rw [List.map_append]; exact upd_same, B11.new hv1, B11.new (none_of_upd hv2), by omega, by rw [List.length_reverse]; omega, by rw [List.length_append]; omega, fun x hx => ?_, fun H12 e12 k12 B12 => ?_⟩
    · have hx2 : x ∈ g.1 ++ g.2 := by
        rcases List.mem_append.mp hx with h | h
        · exact List.mem_append_left _ (List.mem_reverse.mp h)
        · rcases List.mem_append.mp h with h | h <;> exact List.mem_append_right _ h
      have := low x hx2
      omega
    have hgm : (canon g.1.reverse, canon (g.2 ++ g.2)) = g := by rw [c1, c2]
    rw [hgm] at B12 ⊢
    have hgin : addG gs g = gs := by rw [addG, if_pos (List.mem_of_getElem? hg)]
    rw [hgin] at B12 ⊢
    rw [idx_of B3.ok.nd hg]
    have z12 : e12 = [] := by
      have := B12.dok.len
      rw [List.length_append] at this
      exact List.eq_nil_of_length_eq_zero (by omega)
    subst z12
    rw [List.append_nil] at B12
    (repeat kaf_suf)
    exact ⟨_, _, _, rfl, (k3.trans kC).trans (kk.weak.trans k12), B12⟩
  · rintro σ H3 ⟨x2, x3, x4, rfl, k3, B3⟩
    have e3 := k3 _ _ nR e2
    obtain ⟨bx3, bm3, bn3, bd3, hb3⟩ := B3.ins_
    (repeat kaf_suf)
    refine ⟨rfl, b, M, gs, ds, rfl, B3, ?_⟩
    (repeat kaf_suf)
    rw [hqm, decide_eq_true rfl]
    exact k _ (k2.weak.trans k3) B3
theorem cal_law_sound {c : Cn} {mg : Str → Option Value} {base : Heap} (T : Txt c mg) : Cal c.P c.w c.K mg base CX0 4 "_law_sound" (sp_law_sound c) := by
  obtain ⟨f, fd, F, g, b⟩ := T.F_law_sound
  exact ⟨f, fd, ["book"], F.ok (k := 3) (N := N_law_sound) sc_law_sound (fun vs H Q E h => h.1) (fun cdv A outer s H vs Q E hr h => ⟨t_law_sound c, by
  exact (pss_cons (ps_setLc (i := 1) (own := [("g", 2)]) rfl sc_law_sound.nd rfl rfl (sw_true rfl rfl rfl (by decide +kernel)) (pi_range1 rfl T.n_range (pa_cons (e_meth0 (met_Book_many T) hr (by decide) pass0 (pv 0)) pa_nil)) (blkOk_by (own := [("g", 2)]) (N := N_law_sound) (sc := defScope s_law_sound) (by decide +kernel)) (fun _ _ _ _ _ => (pg_name (i := 2) sc_law_sound.nd rfl (Or.inl rfl))) (fun _ _ _ _ _ => pts_nil) (fun _ _ _ _ _ => (pe_tup (pa_cons (e_meth (met_Book_lefts T) hr (by decide) pass0 (pv 0) (pa_cons (pv 2) pa_nil)) (pa_cons (e_meth (met_Book_rights T) hr (by decide) pass0 (pv 0) (pa_cons (pv 2) pa_nil)) pa_nil)))))
  (pss_cons (ps_for PassesOwn.never rfl (pi_range1 rfl T.n_range (pa_cons (pe_callB k_len (by rfl) T.n_len (by decide +kernel) (pa_cons (pv 1) pa_nil)) pa_nil)) (pg_name (i := 2) sc_law_sound.nd rfl (Or.inr rfl))
  (pss_cons (ps_asg (pe_ix (x_ix (hu64 hr)) (pv 1) (pv 2) (fun _ _ => rfl)) (g_seq rfl (pgs_cons (pg_name (i := 3) sc_law_sound.nd rfl (Or.inl rfl)) (pgs_cons (pg_name (i := 4) sc_law_sound.nd rfl (Or.inl rfl)) pgs_nil))))
  (pss_cons (ps_if (PW.pt (pw_or (pt_cmpR (o_in (hu65 hr)) (pe_ix (x_ix (hu64 hr)) (pv 1) (pv 2) (fun _ _ => rfl)) (pe_slice s_sl (pv 1) po_none (po_some (pv 2))) (by rfl)) (pw_or1 (pt_cmpR (o_ne (hu64 hr)) (pe_lc (own := [("one", 5)]) rfl sc_law_sound.nd (pi_any (pe_op o_add (pv 3) (pv 4))) (blkOk_by (own := [("one", 5)]) (N := N_law_sound) (sc := defScope s_law_sound) (by decide +kernel)) (fun _ _ _ _ _ => (pg_name (i := 5) sc_law_sound.nd rfl (Or.inl rfl))) (fun _ _ _ _ _ => (pts_one (pt_cmpR o_ge (pv 5) (pv 2) (nomark _)))) (fun _ _ _ _ _ => (pv 5))) (pe_lst pa_nil) (nomark _))))) (pss_one (ps_ret pe_bl)) pss_nil)
  (pss_cons (ps_if (pt_cmpR (o_ne (hu64 hr)) (e_meth (met_Book_depth T) hr (by decide) pass0 (pv 0) (pa_cons (pv 2) pa_nil)) (pe_callB (k_max rfl) (by rfl) T.n_max (by decide +kernel) (pa_cons (pe_op o_add (pe_lst (pa_cons pe_int pa_nil)) (pe_lc (own := [("one", 5)]) rfl sc_law_sound.nd (pi_any (pe_op o_add (pv 3) (pv 4))) (blkOk_by (own := [("one", 5)]) (N := N_law_sound) (sc := defScope s_law_sound) (by decide +kernel)) (fun _ _ _ _ _ => (pg_name (i := 5) sc_law_sound.nd rfl (Or.inl rfl))) (fun _ _ _ _ _ => pts_nil) (fun _ _ _ _ _ => (pe_op o_add pe_int (e_meth (met_Book_depth T) hr (by decide) pass0 (pv 0) (pa_cons (pv 5) pa_nil)))))) pa_nil)) (nomark _)) (pss_one (ps_ret pe_bl)) pss_nil)
  (pss_one (ps_if (pt_cmpR (o_ne (hu64 hr)) (e_meth (met_Book_game T) hr (by decide) pass0 (pv 0) (pa_cons (pe_revL (pv 3)) (pa_cons (pe_op o_add (pv 4) (pv 4)) pa_nil))) (pv 2) (nomark _)) (pss_one (ps_ret pe_bl)) pss_nil))))))
  (pss_one (ps_ret (pe_cmpR (o_eq (hu64 hr)) (e_meth0 (met_Book_many T) hr (by decide) pass0 (pv 0)) (pe_callB k_len (by rfl) T.n_len (by decide +kernel) (pa_cons (pv 1) pa_nil)) (nomark _)))))), p_law_sound T h⟩), g, F.kp, b⟩

/-! one book's games in another book -/
structure Iso (gs gs2 : List Gm) (ks : List Int) (t : Int → Int) : Prop where
  at_ : ∀ g ∈ ks, ∃ (n : Nat) (gm : Gm), g = n ∧ gs[n]? = some gm ∧ (∀ m ∈ gm.1 ++ gm.2, m ∈ ks) ∧ 0 ≤ t g ∧ gs2[(t g).toNat]? = some (canon (gm.1.map t), canon (gm.2.map t))
theorem Iso.nil {gs gs2 : List Gm} {t : Int → Int} : Iso gs gs2 [] t := ⟨fun _ h => by cases h⟩
theorem Iso.grow {gs gs2 f : List Gm} {ks : List Int} {t : Int → Int} (I : Iso gs gs2 ks t) : Iso gs (gs2 ++ f) ks t := ⟨fun g hg => by
  obtain ⟨n, gm, e, h1, h2, h3, h4⟩ := I.at_ g hg
  exact ⟨n, gm, e, h1, h2, h3, by rw [List.getElem?_append_left (List.getElem?_eq_some_iff.mp h4).1]; exact h4⟩⟩
theorem map_upd {l : List Int} {t : Int → Int} {g y : Int} (h : g ∉ l) : (l.map fun z => if z = g then y else t z) = l.map t :=
  List.map_congr_left fun m hm => by
    have ne : m ≠ g := fun e => h (e ▸ hm)
    show (if m = g then y else t m) = t m
    rw [if_neg ne]
theorem Iso.add {gs gs2 : List Gm} {ks : List Int} {t : Int → Int} (I : Iso gs gs2 ks t) {n : Nat} {gm : Gm} {y : Int} (hn : (n : Int) ∉ ks) (hg : gs[n]? = some gm) (hm : ∀ m ∈ gm.1 ++ gm.2, m ∈ ks) (y0 : 0 ≤ y) (hy : gs2[y.toNat]? = some (canon (gm.1.map t), canon (gm.2.map t))) :
    Iso gs gs2 (ks ++ [(n : Int)]) fun z => if z = (n : Int) then y else t z := ⟨fun g h => by
  have key : ∀ gm : Gm, (∀ m ∈ gm.1 ++ gm.2, m ∈ ks) → (gm.1.map fun z => if z = (n : Int) then y else t z) = gm.1.map t ∧ (gm.2.map fun z => if z = (n : Int) then y else t z) = gm.2.map t := fun gm q =>
    ⟨map_upd fun z => hn (q _ (List.mem_append_left _ z)), map_upd fun z => hn (q _ (List.mem_append_right _ z))⟩
  rcases List.mem_append.mp h with h | h
  · obtain ⟨n', gm', e, h1, h2, h3, h4⟩ := I.at_ g h
    have ne : g ≠ (n : Int) := fun z => hn (z ▸ h)
    refine ⟨n', gm', e, h1, fun m q => List.mem_append_left _ (h2 m q), ?_, ?_⟩
    · show 0 ≤ if g = (n : Int) then y else t g
      rw [if_neg ne]; exact h3
    · show gs2[(if g = (n : Int) then y else t g).toNat]? = _
      rw [if_neg ne, (key gm' h2).1, (key gm' h2).2]; exact h4
  · cases List.mem_singleton.mp h
    refine ⟨n, gm, rfl, hg, fun m q => List.mem_append_left _ (hm m q), ?_, ?_⟩
    · show 0 ≤ if (n : Int) = (n : Int) then y else t n
      rw [if_pos rfl]; exact y0
    · show gs2[(if (n : Int) = (n : Int) then y else t n).toNat]? = _
      rw [if_pos rfl, (key gm hm).1, (key gm hm).2]; exact hy⟩
theorem lt_of_nodup : ∀ {l : List Int}, l.Pairwise (· ≤ ·) → l.Nodup → l.Pairwise (· < ·)
  | [], _, _ => .nil
  | x :: r, h, n => by
    obtain ⟨h1, h2⟩ := List.pairwise_cons.mp h
    obtain ⟨n1, n2⟩ := List.nodup_cons.mp n
    refine List.pairwise_cons.mpr ⟨fun y hy => ?_, lt_of_nodup h2 n2⟩
    have := h1 y hy
    have : x ≠ y := fun e => n1 (e ▸ hy)
    omega
theorem keysM {kvs : List KX} {ks : List Int} (e : kvs.map (·.1) = ks.map Sum.inl) (z : Int) : (valV kvs (.inl z)).isSome = decide (z ∈ ks) := by
  rw [← valV_any]
  have : (kvs.any fun kv => decide (kv.1 = (Sum.inl z : Key))) = (kvs.map (·.1)).any fun k => decide (k = Sum.inl z) := by rw [List.any_map]; rfl
  rw [this, e, List.any_map]
  by_cases h : z ∈ ks
  · rw [decide_eq_true h]
    exact List.any_eq_true.mpr ⟨z, h, by simp⟩
  · rw [decide_eq_false h]
    exact List.any_eq_false.mpr fun y hy => by
      simp only [Function.comp, decide_eq_true_eq]
      intro q; injection q with q; exact h (q ▸ hy)
theorem sub_of_canon {t : Int → Int} {l m : List Int} (h : canon (l.map t) = canon (m.map t)) (inj : ∀ x ∈ l, ∀ y ∈ m, t x = t y → x = y) : ∀ x ∈ l, x ∈ m := fun x hx => by
  have h1 : t x ∈ canon (m.map t) := by rw [← h, canon_mem]; exact List.mem_map_of_mem hx
  rw [canon_mem] at h1
  obtain ⟨y, hy, e⟩ := List.mem_map.mp h1
  rw [inj x hx y hy e.symm]; exact hy
theorem Iso.inj {gs gs2 : List Gm} {ks : List Int} {t : Int → Int} (o : GOk gs) (I : Iso gs gs2 ks t) : ∀ (N : Nat) (a b : Int), a.toNat + b.toNat < N → a ∈ ks → b ∈ ks → t a = t b → a = b
  | 0, _, _, h, _, _, _ => by omega
  | N + 1, a, b, h, ha, hb, e => by
    obtain ⟨n, gm, rfl, h1, h2, h3, h4⟩ := I.at_ a ha
    obtain ⟨n', gm', rfl, h1', h2', h3', h4'⟩ := I.at_ b hb
    rw [e, h4'] at h4
    have e4 := Option.some.inj h4
    have e1 : canon (gm'.1.map t) = canon (gm.1.map t) := congrArg Prod.fst e4
    have e2 : canon (gm'.2.map t) = canon (gm.2.map t) := congrArg Prod.snd e4
    have low := o.low n gm h1
    have low' := o.low n' gm' h1'
    have inj1 : ∀ x ∈ gm.1 ++ gm.2, ∀ y ∈ gm'.1 ++ gm'.2, t x = t y → x = y := fun x hx y hy q => by
      have := low x hx
      have := low' y hy
      exact Iso.inj o I N x y (by omega) (h2 x hx) (h2' y hy) q
    have l : ∀ {x : Int} {p q : List Int}, x ∈ p → x ∈ p ++ q := fun h => List.mem_append_left _ h
    have r : ∀ {x : Int} {p q : List Int}, x ∈ q → x ∈ p ++ q := fun h => List.mem_append_right _ h
    have u := o.up gm (List.mem_of_getElem? h1)
    have u' := o.up gm' (List.mem_of_getElem? h1')
    have s1 : gm.1 = gm'.1 := up_eq u.1 u'.1 fun z => ⟨sub_of_canon e1.symm (fun x hx y hy q => inj1 x (l hx) y (l hy) q) z, sub_of_canon e1 (fun x hx y hy q => (inj1 y (l hy) x (l hx) q.symm).symm) z⟩
    have s2 : gm.2 = gm'.2 := up_eq u.2 u'.2 fun z => ⟨sub_of_canon e2.symm (fun x hx y hy q => inj1 x (r hx) y (r hy) q) z, sub_of_canon e2 (fun x hx y hy q => (inj1 y (r hy) x (r hx) q.symm).symm) z⟩
    have eg : gm = gm' := Prod.ext s1 s2
    subst eg
    rw [nd_inj o.nd h1 h1']
theorem Iso.dep {gs gs2 : List Gm} {ds ds2 : List Int} {ks : List Int} {t : Int → Int} (o : GOk gs) (d : DOk gs ds) (o2 : GOk gs2) (d2 : DOk gs2 ds2) (I : Iso gs gs2 ks t) : ∀ (N n : Nat), n < N → (n : Int) ∈ ks → ∀ e, ds[n]? = some e → ds2[(t n).toNat]? = some e
  | 0, _, h, _, _, _ => by omega
  | N + 1, n, h, hn, e, he => by
    obtain ⟨n', gm, e', h1, h2, h3, h4⟩ := I.at_ _ hn
    have : n' = n := by omega
    subst this
    have low := o.low n' gm h1
    have hl2 := d2.len
    have hl := d.len
    obtain ⟨e2, he2⟩ : ∃ x, ds2[(t n').toNat]? = some x := ⟨_, List.getElem?_eq_getElem (by rw [hl2]; exact (List.getElem?_eq_some_iff.mp h4).1)⟩
    obtain ⟨p1, p2, p3⟩ := d.at_ n' gm e h1 he
    obtain ⟨q1, q2, q3⟩ := d2.at_ _ _ e2 h4 he2
    have mem : ∀ z, z ∈ canon (gm.1.map t) ++ canon (gm.2.map t) ↔ ∃ m ∈ gm.1 ++ gm.2, t m = z := fun z => by
      rw [List.mem_append, canon_mem, canon_mem, ← List.mem_append, ← List.map_append, List.mem_map]
    have dd : ∀ m ∈ gm.1 ++ gm.2, ∃ x, ds[m.toNat]? = some x ∧ ds2[(t m).toNat]? = some x := fun m hm => by
      have lm := low m hm
      have lt : m.toNat < ds.length := by have := (List.getElem?_eq_some_iff.mp he).1; omega
      have e1 := List.getElem?_eq_getElem lt
      refine ⟨_, e1, ?_⟩
      have em : ((m.toNat : Nat) : Int) = m := by omega
      have := Iso.dep o d o2 d2 I N m.toNat (by omega) (by rw [em]; exact h2 m hm) _ e1
      rw [em] at this; exact this
    by_cases z : gm.1 ++ gm.2 = []
    · have z2 : canon (gm.1.map t) ++ canon (gm.2.map t) = [] := by
        refine List.eq_nil_iff_forall_not_mem.mpr fun x hx => ?_
        obtain ⟨m, hm, _⟩ := (mem x).mp hx
        rw [z] at hm; cases hm
      rw [he2, p1 z, q1 z2]
    · obtain ⟨x, hx, ex⟩ := p3 z
      obtain ⟨m, hm, em⟩ := List.mem_map.mp hx
      obtain ⟨v, v1, v2⟩ := dd m hm
      rw [v1] at em
      have em' : v = x := em
      have z2 : canon (gm.1.map t) ++ canon (gm.2.map t) ≠ [] := fun w => by
        have := (mem (t m)).mpr ⟨m, hm, rfl⟩
        rw [w] at this; cases this
      obtain ⟨y, hy, ey⟩ := q3 z2
      obtain ⟨m2, hm2, em2⟩ := List.mem_map.mp hy
      obtain ⟨m3, hm3, em3⟩ := (mem m2).mp hm2
      obtain ⟨v', v1', v2'⟩ := dd m3 hm3
      rw [← em3, v2'] at em2
      have em2' : v' = y := em2
      have a1 : v' + 1 ≤ e := p2 v' (List.mem_map.mpr ⟨m3, hm3, by rw [v1']; rfl⟩)
      have a2 : v + 1 ≤ e2 := q2 v (List.mem_map.mpr ⟨t m, (mem _).mpr ⟨m, hm, rfl⟩, by rw [v2]; rfl⟩)
      rw [he2]
      congr 1
      omega
/-- the moves there, told as a sorted list -/
theorem sorted_canon {t : Int → Int} {l ns : List Int} (nd : l.Nodup) (inj : ∀ x ∈ l, ∀ y ∈ l, t x = t y → x = y) (h1 : ns.Perm (l.map t)) (h2 : ns.Pairwise (· ≤ ·)) : ns = canon (l.map t) := by
  have n1 : (l.map t).Nodup := by
    refine List.pairwise_map.mpr (List.Pairwise.imp_of_mem ?_ nd)
    intro a b ha hb ne e
    exact ne (inj a ha b hb e)
  have n2 : ns.Nodup := h1.nodup_iff.mpr n1
  refine canon_eq (lt_of_nodup h2 n2) fun z => h1.mem_iff
def kvT (ks : List Int) (t : Int → Int) : List KX := ks.map fun k => (Sum.inl k, V.int (t k))
theorem kvT_keys {ks : List Int} {t : Int → Int} : (kvT ks t).map (·.1) = ks.map Sum.inl := by unfold kvT; rw [List.map_map]; rfl
theorem kvT_in {ks : List Int} {t : Int → Int} {z : Int} : (valV (kvT ks t) (.inl z)).isSome = decide (z ∈ ks) := keysM kvT_keys z
theorem kvT_at {t : Int → Int} {z : Int} : ∀ {ks : List Int}, z ∈ ks → valV (kvT ks t) (.inl z) = some (.int (t z))
  | k :: ks, h => by
    unfold kvT
    rw [List.map_cons]
    by_cases e : k = z
    · subst e; exact valV_pos rfl
    · rw [valV_neg (fun q => e (by injection q))]
      rcases List.mem_cons.mp h with q | q
      · exact absurd q.symm e
      · exact kvT_at q
theorem kvT_put {ks : List Int} {t : Int → Int} {z y : Int} (h : z ∉ ks) : putK (kvT ks t) (.inl z) (.int y) = kvT (ks ++ [z]) fun k => if k = z then y else t k := by
  have hn : valV (kvT ks t) (.inl z) = none := by
    have := kvT_in (ks := ks) (t := t) (z := z)
    rw [decide_eq_false h] at this
    cases e : valV (kvT ks t) (.inl z) with
    | none => rfl
    | some v => rw [e] at this; cases this
  rw [putK_new hn]
  unfold kvT
  rw [List.map_append]
  congr 1
  · exact List.map_congr_left fun m hm => by
      have : m ≠ z := fun e => h (e ▸ hm)
      show (Sum.inl m, V.int (t m)) = (Sum.inl m, V.int (if m = z then y else t m))
      rw [if_neg this]
  · simp
theorem v_ixKT {P : Program} {w : World} {K : PySem.W.Frag} {H : Hp} {Q : VK} {d : Addr} {ks : List Int} {t : Int → Int} {z : Int} (e : H d = some (.dK (kvT ks t))) (h : z ∈ ks) (q : Q (.int (t z)) H) : bIx P w K (.ref d) (.int z) H Q :=
  .inr (.inr (.inr (.inl ⟨d, _, rfl, (kvT_at (t := t) h) ▸ DGet.k (k := .inl z) e, q⟩)))
theorem v_ninKT {P : Program} {w : World} {K : PySem.W.Frag} {H : Hp} {Q : VK} {d : Addr} {ks : List Int} {t : Int → Int} {z : Int} (e : H d = some (.dK (kvT ks t))) (q : Q (.bl (!decide (z ∈ ks))) H) : cNotIn P w K (.int z) (.ref d) H Q :=
  .inr (.inr (.inr (.inl ⟨d, _, rfl, DGet.k (k := .inl z) e, by rw [kvT_in]; simpa using q⟩)))
theorem v_setKT {P : Program} {w : World} {H : Hp} {Q : Hp → Prop} {d : Addr} {ks : List Int} {t : Int → Int} {g y : Int} (e : H d = some (.dK (kvT ks t))) (n : g ∉ ks) (l : ks.length < sizeLine) (q : Q (upd H d (.dK (kvT (ks ++ [g]) fun k => if k = g then y else t k)))) : bSet P w (.ref d) (.int g) (.int y) H Q :=
  .inr (.inl ⟨d, _, rfl, DPut.k (k := .inl g) e (by unfold kvT; rw [List.length_map]; exact l), by rw [kvT_put n]; exact q⟩)

abbrev N_law_moved : List Str := ["deck", "book", "second", "there", "left", "ready", "g", "one"]
theorem sc_law_moved : FnScope N_law_moved ["deck", "book", "second"] (defScope s_law_moved) := ⟨rfl, rfl, rfl, by decide +kernel, rfl, by decide +kernel, by decide +kernel⟩
def t_law_moved (c : Cn) : TS :=
  (tSeq (tAsg (uDNew c.P c.w) (gName 3))
  (tSeq (tAsg (tLstRg (tRg1 (tMeth c.cBook "many" (sp_Book_many c) [] E0 (tVar 1) tNil))) (gName 4))
  (tSeq (tWhile (tTest (tOp (cNe c.K) (tVar 4) (tLst tNil)))
  (tSeq (tAsg (tLc (iAny c.K (tVar 4)) (gName 6) (tTest (tOp (cEq c.K) (tLc (iAny c.K (tOp (bAdd c.K) (tMeth c.cBook "lefts" (sp_Book_lefts c) [] E0 (tVar 1) (tCons (tVar 6) tNil)) (tMeth c.cBook "rights" (sp_Book_rights c) [] E0 (tVar 1) (tCons (tVar 6) tNil)))) (gName 7) (tTest (tOp (cNotIn c.P c.w c.K) (tVar 7) (tVar 3))) (tVar 7) [7]) (tLst tNil))) (tVar 6) [6]) (gName 5))
  (tSeq (tAsg (tOp (bIx c.P c.w c.K) (tVar 5) (tCall (sp_law_draw c) [] E0 (tCons (tVar 0) (tCons (tCB (kLen c.K) (tCons (tVar 5) tNil)) tNil)))) (gName 6))
  (tSeq (tDrop (tRemX c.K (fun _ _ _ _ => False) (tVar 4) (tVar 6)))
  (tSeq (tAsg (tMeth c.cBook "game" (sp_Book_game c) [] E0 (tVar 2) (tCons (tLc (iAny c.K (tMeth c.cBook "lefts" (sp_Book_lefts c) [] E0 (tVar 1) (tCons (tVar 6) tNil))) (gName 7) tYes (tOp (bIx c.P c.w c.K) (tVar 3) (tVar 7)) [7]) (tCons (tLc (iAny c.K (tMeth c.cBook "rights" (sp_Book_rights c) [] E0 (tVar 1) (tCons (tVar 6) tNil))) (gName 7) tYes (tOp (bIx c.P c.w c.K) (tVar 3) (tVar 7)) [7]) tNil))) (gSub (tVar 3) (tVar 6) (bSet c.P c.w)))
  (tIfS (tTest (tOp (cEq c.K) (tCall (sp_law_draw c) [] E0 (tCons (tVar 0) (tCons (tC (.int 3)) tNil))) (tC (.int 0))))
  (tDrop (tMeth c.cBook "game" (sp_Book_game c) [] E0 (tVar 2) (tCons (tLst (tCons (tOp (bIx c.P c.w c.K) (tVar 3) (tVar 6)) tNil)) (tCons (tLst (tCons (tOp bSub (tMeth c.cBook "many" (sp_Book_many c) [] E0 (tVar 2) tNil) (tC (.int 1))) tNil)) tNil))))
  tNext))))))
  (tRet (tVar 3)))))
theorem least_mem : ∀ (l : List Int), l ≠ [] → ∃ g ∈ l, ∀ z ∈ l, g ≤ z
  | [], h => absurd rfl h
  | [x], _ => ⟨x, by simp, fun z hz => by simp at hz; omega⟩
  | x :: y :: r, _ => by
    obtain ⟨g, hg, hl⟩ := least_mem (y :: r) (by simp)
    by_cases h : x ≤ g
    · exact ⟨x, by simp, fun z hz => by
        rcases List.mem_cons.mp hz with rfl | q
        · exact Int.le_refl _
        · have := hl z q; omega⟩
    · exact ⟨g, List.mem_cons_of_mem _ hg, fun z hz => by
        rcases List.mem_cons.mp hz with rfl | q
        · omega
        · exact hl z q⟩
theorem BookAt.al {c : Cn} {H : Hp} {b : Addr} {M : Addr → Prop} {gs : List Gm} {ds : List Int} (B : BookAt c H b M gs ds) : Al M H := fun _ h => B.new h
theorem DeckAt.al {H : Hp} {d : Addr} {M : Addr → Prop} (D : DeckAt H d M) : Al M H := fun _ h => D.new h
theorem gm_len2 {c : Cn} {H : Hp} {b : Addr} {M : Addr → Prop} {gs : List Gm} {ds : List Int} (B : BookAt c H b M gs ds) {g : Nat} {gm : Gm} (hg : gs[g]? = some gm) : gm.1.length ≤ gs.length ∧ gm.2.length ≤ gs.length := by
  have low := B.ok.low g gm hg
  have up := B.ok.up gm (List.mem_of_getElem? hg)
  have := (List.getElem?_eq_some_iff.mp hg).1
  have gl1 := up_len _ 0 gs.length up.1 (fun m hm => by have := low m (List.mem_append_left _ hm); omega) (by omega)
  have gl2 := up_len _ 0 gs.length up.2 (fun m hm => by have := low m (List.mem_append_right _ hm); omega) (by omega)
  omega
def okM (gs : List Gm) (ks : List Int) (g : Int) : Bool := (mvs gs g.toNat true ++ mvs gs g.toNat false).all fun m => decide (m ∈ ks)
def sp_law_moved (c : Cn) : Sp := fun vs H Q E => vs.length = 3 ∧ ∃ (d b s : Addr) (MD MB MS : Addr → Prop) (gs : List Gm) (ds : List Int), vs = [.ref d, .ref b, .ref s] ∧ DeckAt H d MD ∧ BookAt c H b MB gs ds ∧ BookAt c H s MS [([], [])] [0] ∧ gs.length ≤ 60 ∧ (∀ x, MB x → ¬ MD x) ∧ (∀ x, MS x → ¬ MD x) ∧ (∀ x, MB x → ¬ MS x) ∧
  ∀ (H' : Hp) (p : Addr) (ks : List Int) (t : Int → Int) (gs2 : List Gm) (ds2 : List Int), Keep (fun x => MD x ∨ MS x) H H' → DeckAt H' d MD → BookAt c H' b MB gs ds → BookAt c H' s MS gs2 ds2 → gs2.length ≤ 200 → Iso gs gs2 ks t → ks.Nodup → (∀ z : Int, z ∈ ks ↔ 0 ≤ z ∧ z < gs.length) → H p = none → H' p = some (.dK (kvT ks t)) → Q (.ref p) H'
theorem p_law_moved {c : Cn} {mg : Str → Option Value} (T : Txt c mg) {vs : List V} {H : Hp} {Q : VK} {E : XK} (h : sp_law_moved c vs H Q E) : t_law_moved c { nx := fun _ H' => Q .non H', rt := Q } (start N_law_moved vs) H := by
  obtain ⟨_, d, b, s, MD, MB, MS, gs, ds, rfl, D, B, S, few, bD, sD, bS, k⟩ := h
  have go := B.ok
  unfold t_law_moved
  (repeat kaf_suf)
  refine .inl ⟨true, fun th hth => ?_⟩
  rw [if_pos rfl]
  have k1 : Keep Nil H (upd H th (.dK [])) := Keep.alloc hth
  have nthD : ¬ MD th := D.new hth
  have nthB : ¬ MB th := B.new hth
  have nthS : ¬ MS th := S.new hth
  have D1 := D.keep k1 fun _ _ z => z
  have B1 := B.same k1
  have S1 := S.same k1
  obtain ⟨bx1, bm1, bn1, bd1, hb1⟩ := B1.ins_
  (repeat kaf_suf)
  refine ⟨rfl, b, MB, gs, ds, rfl, B1, ?_⟩
  (repeat kaf_suf)
  refine ⟨RgOk.of_le (by omega) (by omega) (by omega) (by omega), fun lf hlf => ?_⟩
  have rg : rgV 0 (gs.length : Int) = ((List.range gs.length).map fun i : Nat => (i : Int)).map V.int := by
    unfold rgV
    rw [List.map_map]
    have : ((gs.length : Int) - 0).toNat = gs.length := by omega
    rw [this]
    exact List.map_congr_left fun m _ => by simp
  rw [rg]
  have k2 : Keep Nil H (upd (upd H th (.dK [])) lf (.lst (((List.range gs.length).map fun i : Nat => (i : Int)).map V.int))) := k1.new hlf
  have eth : (upd (upd H th (.dK [])) lf (.lst (((List.range gs.length).map fun i : Nat => (i : Int)).map V.int))) th = some (.dK (kvT [] fun _ => 0)) := get_new hlf upd_same
  have elf : (upd (upd H th (.dK [])) lf (.lst (((List.range gs.length).map fun i : Nat => (i : Int)).map V.int))) lf = some (.lst (((List.range gs.length).map fun i : Nat => (i : Int)).map V.int)) := upd_same
  have hlf0 : H lf = none := none_of_upd hlf
  have ntl : th ≠ lf := ne_old hlf upd_same
  generalize upd (upd H th (.dK [])) lf (.lst (((List.range gs.length).map fun i : Nat => (i : Int)).map V.int)) = H2 at k2 eth elf ⊢
  have D2 := D.keep k2 fun _ _ z => z
  have B2 := B.same k2
  have S2 := S.same k2
  have nlD : ¬ MD lf := D.new hlf0
  have nlB : ¬ MB lf := B.new hlf0
  have nlS : ¬ MS lf := S.new hlf0
  clear k1 D1 B1 S1 hb1 hlf
  (repeat kaf_suf)
  refine ⟨fun m σ H' => ∃ (x5 x6 : Option V) (ks lv : List Int) (t : Int → Int) (gs2 : List Gm) (ds2 : List Int), σ = [some (.ref d), some (.ref b), some (.ref s), some (.ref th), some (.ref lf), x5, x6, none] ∧ Keep (fun x => MD x ∨ MS x) H H' ∧ DeckAt H' d MD ∧ BookAt c H' b MB gs ds ∧ BookAt c H' s MS gs2 ds2 ∧
    gs2.length + 2 * lv.length ≤ 2 * gs.length + 1 ∧ Iso gs gs2 ks t ∧ (ks ++ lv).Nodup ∧ (∀ z : Int, z ∈ ks ++ lv ↔ 0 ≤ z ∧ z < gs.length) ∧ H' th = some (.dK (kvT ks t)) ∧ H' lf = some (.lst (lv.map V.int)) ∧ m = lv.length,
    ⟨_, _, _, [], _, _, _, _, rfl, k2.weak, D2, B2, S2, by simp; omega, Iso.nil, by
      rw [List.nil_append]
      refine List.pairwise_map.mpr (List.nodup_range.imp ?_)
      intro x y ne e
      exact ne (by omega), fun z => by
      rw [List.nil_append, List.mem_map]
      refine ⟨fun ⟨x, hx, e⟩ => by have := List.mem_range.mp hx; omega, fun ⟨z0, z1⟩ => ⟨z.toNat, List.mem_range.mpr (by omega), by omega⟩⟩, eth, elf, rfl⟩, ?_⟩
  clear D2 B2 S2 eth elf k2 rg
  rintro m σ H3 ⟨x5, x6, ks, lv, t, gs2, ds2, rfl, k3, D3, B3, S3, fw, I3, nd, mem, eth, elf, rfl⟩
  (repeat kaf_suf)
  intro q hq
  (repeat kaf_suf)
  refine v_neD (dp_ints (get_new hq elf)) (.lst (SqL.of upd_same) .nil) (dInts_sh _) (dInts_sh []) ?_
  rw [show PyData.eqv (dInts lv) (.list []) = decide (lv = []) from eqv_dInts lv []]
  have kq : Keep Nil H3 (upd H3 q (.lst [])) := Keep.alloc hq
  have ethq := kq.get (fun z => z) eth
  have elfq := kq.get (fun z => z) elf
  have k4 := k3.trans kq.weak
  have D4 := D3.keep kq fun _ _ z => z
  have B4 := B3.same kq
  have S4 := S3.same kq
  generalize upd H3 q (.lst []) = H4 at ethq elfq k4 D4 B4 S4 ⊢
  clear hq kq eth elf k3 D3 B3 S3
  by_cases hlv : lv = []
  · subst hlv
    rw [decide_eq_true rfl]
    (repeat kaf_suf)
    rw [List.append_nil] at nd mem
    exact k _ th ks t gs2 ds2 k4 D4 B4 S4 (by simp at fw; omega) I3 nd mem hth ethq
  rw [decide_eq_false hlv]
  refine r_kB (r_ite_nf ?_)
  refine ⟨fun σ' H' => ∃ (x5 x6 : Option V) (ks' lv' : List Int) (t' : Int → Int) (gs2' : List Gm) (ds2' : List Int), σ' = [some (.ref d), some (.ref b), some (.ref s), some (.ref th), some (.ref lf), x5, x6, none] ∧ Keep (fun x => MD x ∨ MS x) H H' ∧ DeckAt H' d MD ∧ BookAt c H' b MB gs ds ∧ BookAt c H' s MS gs2' ds2' ∧
    gs2'.length + 2 * lv'.length ≤ 2 * gs.length + 1 ∧ Iso gs gs2' ks' t' ∧ (ks' ++ lv').Nodup ∧ (∀ z : Int, z ∈ ks' ++ lv' ↔ 0 ≤ z ∧ z < gs.length) ∧ H' th = some (.dK (kvT ks' t')) ∧ H' lf = some (.lst (lv'.map V.int)) ∧ lv'.length < lv.length, fun σ' H' ⟨a1, a2, a3, a4, a5, a6, a7, h1, h2, h3, h4, h5, h6, h7, h8, h9, h10, h11, h12⟩ => ⟨_, h12, a1, a2, a3, a4, a5, a6, a7, h1, h2, h3, h4, h5, h6, h7, h8, h9, h10, h11, rfl⟩, ?_⟩
  have ndl := (List.nodup_append.mp nd).2.1
  have ll : lv.length ≤ 60 := by
    have := nodup_le lv ((List.range gs.length).map Int.ofNat) ndl fun z hz => by
      have := (mem z).mp (List.mem_append_right _ hz)
      exact List.mem_map.mpr ⟨z.toNat, List.mem_range.mpr (by omega), by show ((z.toNat : Nat) : Int) = z; omega⟩
    rw [List.length_map, List.length_range] at this
    omega
  (repeat kaf_suf)
  refine lcT Nil PyData.int lv (okM gs ks) PyData.int Al.nil (few1 (by omega)) (fun D hD => yv_list elfq (fun z => z.elim (fun z => z) fun e => (ne_old hD elfq) e) (RpA.ints lv)) ?_ ?_
  · intro D i x z H5 R N hD hz k5 al5 rx hR hN
    cases rx.int_
    have hzb := (mem z).mp (List.mem_append_right _ (List.mem_of_getElem? hz))
    obtain ⟨zn, rfl⟩ := Int.eq_ofNat_of_zero_le hzb.1
    obtain ⟨gm, hg⟩ : ∃ x, gs[zn]? = some x := ⟨_, List.getElem?_eq_getElem (by omega)⟩
    have gl := gm_len2 B4 hg
    have B5 := B4.same k5
    have eth5 := k5.get (fun z => z) ethq
    obtain ⟨bx5, bm5, bn5, bd5, hb5⟩ := B5.ins_
    (repeat kaf_suf)
    refine ⟨rfl, ?_⟩
    (repeat kaf_suf)
    refine ⟨rfl, b, MB, gs, ds, zn, gm, rfl, B5, hg, fun r1 hr1 => ?_⟩
    (repeat kaf_suf)
    refine ⟨rfl, b, MB, gs, ds, zn, gm, rfl, B5.same (Keep.alloc hr1), hg, fun r2 hr2 => ?_⟩
    (repeat kaf_suf)
    intro r3 hr3
    have k6 : Keep Nil H5 (upd (upd (upd H5 r1 (.lst (gm.1.map V.int))) r2 (.lst (gm.2.map V.int))) r3 (.lst (gm.1.map V.int ++ gm.2.map V.int))) := ((Keep.alloc hr1).new hr2).new hr3
    have e3 : (upd (upd (upd H5 r1 (.lst (gm.1.map V.int))) r2 (.lst (gm.2.map V.int))) r3 (.lst (gm.1.map V.int ++ gm.2.map V.int))) r3 = some (.lst ((gm.1 ++ gm.2).map V.int)) := by rw [List.map_append]; exact upd_same
    generalize upd (upd (upd H5 r1 (.lst (gm.1.map V.int))) r2 (.lst (gm.2.map V.int))) r3 (.lst (gm.1.map V.int ++ gm.2.map V.int)) = H6 at k6 e3 ⊢
    have eth6 := k6.get (fun z => z) eth5
    clear hr1 hr2 hr3
    (repeat kaf_suf)
    refine lcT Nil PyData.int (gm.1 ++ gm.2) (fun m => !decide (m ∈ ks)) PyData.int Al.nil (few1 (by rw [List.length_append]; omega)) (fun D hD => yv_list e3 (fun z => z.elim (fun z => z) fun e => (ne_old hD e3) e) (RpA.ints _)) ?_ ?_
    · intro D2 j x m H7 R2 N2 hD2 hm k7 al7 rx hR2 hN2
      cases rx.int_
      have eth7 := k7.get (fun z => z) eth6
      (repeat kaf_suf)
      refine ⟨rfl, ?_⟩
      (repeat kaf_suf)
      refine v_ninKT eth7 ?_
      refine r_kB ?_
      by_cases hmk : m ∈ ks
      · rw [decide_eq_true hmk]
        exact r_ite_nt (hN2 _ Keep.refl (by simp [hmk]))
      · rw [decide_eq_false hmk]
        refine r_ite_nf ?_
        (repeat kaf_suf)
        exact hR2 _ _ Keep.refl (.int _) (by simp [hmk])
    intro D2 H7 hD2 k7 r7
    (repeat kaf_suf)
    intro q hq
    have kq : Keep Nil H7 (upd H7 q (.lst [])) := Keep.alloc hq
    refine v_eqV (r7.same kq) (.lst upd_same (fun z => z) .nil) (sh_ints _) (by rfl) ?_
    rw [show PyData.eqv (.list (((gm.1 ++ gm.2).filter fun m => !decide (m ∈ ks)).map PyData.int)) (.list []) = okM gs ks zn by
      rw [show PyData.eqv (.list (((gm.1 ++ gm.2).filter fun m => !decide (m ∈ ks)).map PyData.int)) (.list []) = decide (((gm.1 ++ gm.2).filter fun m => !decide (m ∈ ks)) = []) from eqv_dInts _ []]
      unfold okM
      have e1 : mvs gs ((zn : Int).toNat) true = gm.1 := by unfold mvs; rw [Int.toNat_natCast, hg]; rfl
      have e2 : mvs gs ((zn : Int).toNat) false = gm.2 := by unfold mvs; rw [Int.toNat_natCast, hg]; rfl
      rw [e1, e2]
      cases e : (gm.1 ++ gm.2).all fun m => decide (m ∈ ks) with
      | true =>
        refine decide_eq_true (List.filter_eq_nil_iff.mpr fun a ha => ?_)
        have := List.all_eq_true.mp e a ha
        simp at this ⊢; exact this
      | false =>
        refine decide_eq_false fun q => ?_
        obtain ⟨a, ha, na⟩ := List.all_eq_false.mp e
        have := List.filter_eq_nil_iff.mp q a ha
        simp at this na; exact na this]
    have kA : Keep Nil H5 (upd H7 q (.lst [])) := (k6.trans k7).trans kq
    refine r_kB ?_
    cases ho : okM gs ks zn with
    | true =>
      refine r_ite_tt ?_
      (repeat kaf_suf)
      exact hR _ _ kA (.int _) ho
    | false => exact r_ite_ff (hN _ kA ho)
  intro D H5 hD k5 rD
  obtain ⟨rd, erd, eD, _⟩ := rD.ints_
  cases erd
  have D5 := D4.keep k5 fun _ _ z => z
  have ethz := k5.get (fun z => z) ethq
  have elfz := k5.get (fun z => z) elfq
  have B5 := B4.same k5
  have S5 := S4.same k5
  have k05 := k4.trans k5.weak
  have nDD : ¬ MD D := D4.new hD
  have nDS : ¬ MS D := S4.new hD
  clear ethq elfq D4 B4 S4 k4 k5 rD
  obtain ⟨g0, hg0, hl0⟩ := least_mem lv hlv
  have g0b := (mem g0).mp (List.mem_append_right _ hg0)
  have ne : 0 < (lv.filter (okM gs ks)).length := by
    refine List.length_pos_of_mem (a := g0) (List.mem_filter.mpr ⟨hg0, List.all_eq_true.mpr fun m hm => ?_⟩)
    have hm2 : 0 ≤ m ∧ m < g0 := by
      rcases List.mem_append.mp hm with h | h
      · have := mvs_low go h; omega
      · have := mvs_low go h; omega
    refine decide_eq_true ?_
    rcases List.mem_append.mp ((mem m).mpr (by omega)) with h | h
    · exact h
    · have := hl0 m h; omega
  have fl : (lv.filter (okM gs ks)).length ≤ lv.length := List.length_filter_le _ _
  have fm : (((lv.filter (okM gs ks)).map V.int).length : Int) = ((lv.filter (okM gs ks)).length : Int) := by rw [List.length_map]
  (repeat kaf_suf)
  refine ⟨rfl, d, _, MD, rfl, by omega, by omega, D5, fun H6 n k6 D6 n0 n1 => ?_⟩
  obtain ⟨g, hg, hgm⟩ : ∃ g, atI ((lv.filter (okM gs ks)).map V.int) n = some (.int g) ∧ g ∈ lv.filter (okM gs ks) := by
    have lt : n.toNat < (lv.filter (okM gs ks)).length := by omega
    exact ⟨(lv.filter (okM gs ks))[n.toNat], atI_get (n := n.toNat) (by rw [List.getElem?_map, List.getElem?_eq_getElem lt]; rfl) (by omega), List.getElem_mem lt⟩
  obtain ⟨hgl, hgo⟩ := List.mem_filter.mp hgm
  have gb := (mem g).mp (List.mem_append_right _ hgl)
  obtain ⟨gn, rfl⟩ := Int.eq_ofNat_of_zero_le gb.1
  obtain ⟨gm, hgg⟩ : ∃ x, gs[gn]? = some x := ⟨_, List.getElem?_eq_getElem (by omega)⟩
  have gl := gm_len2 B5 hgg
  have B6 := B5.keep k6 (fun _ h => D5.cell h) bD
  have S6 := S5.keep k6 (fun _ h => D5.cell h) sD
  have eD6 := k6 _ _ nDD eD
  have eth6 := k6 _ _ nthD ethz
  have elf6 := k6 _ _ nlD elfz
  have k06 := k05.trans (k6.mono fun _ h => .inl h)
  clear D5 B5 S5 eD ethz elfz k6 k05 fm
  (repeat kaf_suf)
  refine r_remX ?_
  (repeat kaf_suf)
  refine ⟨.inl ⟨rfl, _, SqL.of elf6⟩, ?_⟩
  (repeat kaf_suf)
  refine ⟨lf, lv, gn, rfl, rfl, elf6, fun _ => ?_, fun q => absurd hgl q⟩
  have kl : Keep (fun x => x = lf) H6 (upd H6 lf (.lst ((lv.erase (gn : Int)).map V.int))) := Keep.refl.set rfl
  have elf7 : (upd H6 lf (.lst ((lv.erase (gn : Int)).map V.int))) lf = some (.lst ((lv.erase (gn : Int)).map V.int)) := upd_same
  have eth7 : (upd H6 lf (.lst ((lv.erase (gn : Int)).map V.int))) th = some (.dK (kvT ks t)) := get_set ntl eth6
  have B7 := B6.keep kl (fun x e => ⟨_, e ▸ elf6⟩) fun x h e => nlB (e ▸ h)
  have S7 := S6.keep kl (fun x e => ⟨_, e ▸ elf6⟩) fun x h e => nlS (e ▸ h)
  have D7 := D6.keep kl fun x h e => nlD (e ▸ h)
  have k07 : Keep (fun x => MD x ∨ MS x) H (upd H6 lf (.lst ((lv.erase (gn : Int)).map V.int))) := k06.setN hlf0
  generalize upd H6 lf (.lst ((lv.erase (gn : Int)).map V.int)) = H7 at elf7 eth7 B7 S7 D7 k07 ⊢
  clear B6 S6 D6 k06 eth6 elf6 kl eD6
  have hall : ∀ m ∈ gm.1 ++ gm.2, m ∈ ks := fun m hm => by
    have e1 : mvs gs gn true = gm.1 := by unfold mvs; rw [hgg]; rfl
    have e2 : mvs gs gn false = gm.2 := by unfold mvs; rw [hgg]; rfl
    unfold okM at hgo
    rw [Int.toNat_natCast, e1, e2] at hgo
    exact of_decide_eq_true (List.all_eq_true.mp hgo m hm)
  have hlen : (lv.erase (gn : Int)).length + 1 = lv.length := by
    have := List.length_erase_of_mem hgl
    have := List.length_pos_of_mem hgl
    omega
  obtain ⟨bx7, bm7, bn7, bd7, hb7⟩ := B7.ins_
  obtain ⟨cx7, cm7, cn7, cd7, hc7⟩ := S7.ins_
  (repeat kaf_suf)
  refine ⟨rfl, b, MB, gs, ds, gn, gm, rfl, B7, hgg, fun r1 hr1 => ?_⟩
  have kr1 : Keep Nil H7 (upd H7 r1 (.lst (gm.1.map V.int))) := Keep.alloc hr1
  have er1 : (upd H7 r1 (.lst (gm.1.map V.int))) r1 = some (.lst (gm.1.map V.int)) := upd_same
  generalize upd H7 r1 (.lst (gm.1.map V.int)) = H8 at kr1 er1 ⊢
  (repeat kaf_suf)
  refine lcT Nil PyData.int gm.1 (fun _ => true) (fun m => .int (t m)) Al.nil (few1 (by omega)) (fun D hD => yv_list er1 (fun z => z.elim (fun z => z) fun e => (ne_old hD er1) e) (RpA.ints _)) ?_ ?_
  · intro D2 j x m H9 R2 N2 hD2 hm k9 al9 rx hR2 hN2
    cases rx.int_
    have eth9 := (kr1.trans k9).get (fun z => z) eth7
    have hmk := hall m (List.mem_append_left _ (List.mem_of_getElem? hm))
    (repeat kaf_suf)
    refine ⟨rfl, ?_⟩
    (repeat kaf_suf)
    refine v_ixKT eth9 hmk ?_
    exact hR2 _ _ Keep.refl (.int _) rfl
  intro L1 H9 hL1 k9 rL1
  have k79 := kr1.trans k9
  rw [filter_tt, show gm.1.map (fun m => PyData.int (t m)) = (gm.1.map t).map PyData.int by rw [List.map_map]; rfl] at rL1
  obtain ⟨l1, el1, eL1, _⟩ := rL1.ints_
  cases el1
  have hb9 := k79.get (fun z => z) hb7
  (repeat kaf_suf)
  refine ⟨rfl, b, MB, gs, ds, gn, gm, rfl, B7.same k79, hgg, fun r2 hr2 => ?_⟩
  have kr2 : Keep Nil H9 (upd H9 r2 (.lst (gm.2.map V.int))) := Keep.alloc hr2
  have er2 : (upd H9 r2 (.lst (gm.2.map V.int))) r2 = some (.lst (gm.2.map V.int)) := upd_same
  generalize upd H9 r2 (.lst (gm.2.map V.int)) = H10 at kr2 er2 ⊢
  (repeat kaf_suf)
  refine lcT Nil PyData.int gm.2 (fun _ => true) (fun m => .int (t m)) Al.nil (few1 (by omega)) (fun D hD => yv_list er2 (fun z => z.elim (fun z => z) fun e => (ne_old hD er2) e) (RpA.ints _)) ?_ ?_
  · intro D2 j x m H11 R2 N2 hD2 hm k11 al11 rx hR2 hN2
    cases rx.int_
    have eth11 := ((k79.trans kr2).trans k11).get (fun z => z) eth7
    have hmk := hall m (List.mem_append_right _ (List.mem_of_getElem? hm))
    (repeat kaf_suf)
    refine ⟨rfl, ?_⟩
    (repeat kaf_suf)
    refine v_ixKT eth11 hmk ?_
    exact hR2 _ _ Keep.refl (.int _) rfl
  intro L2 H11 hL2 k11 rL2
  rw [filter_tt, show gm.2.map (fun m => PyData.int (t m)) = (gm.2.map t).map PyData.int by rw [List.map_map]; rfl] at rL2
  obtain ⟨l2, el2, eL2, _⟩ := rL2.ints_
  cases el2
  have k911 := kr2.trans k11
  have k711 := k79.trans k911
  have eL1' := k911.get (fun z => z) eL1
  have eth11 := k711.get (fun z => z) eth7
  have elf11 := k711.get (fun z => z) elf7
  have hc11 := k711.get (fun z => z) hc7
  have B11 := B7.same k711
  have S11 := S7.same k711
  have D11 := D7.keep k711 fun _ _ z => z
  have k011 := k07.trans k711.weak
  have nL1S : ¬ MS L1 := S7.new (keep_none kr1 hL1)
  have nL2S : ¬ MS L2 := S7.new (keep_none (k79.trans kr2) hL2)
  clear er1 er2 eL1 hb9 hr2 hr1 rL1 rL2 k9 k11 kr1 kr2 k79 k911 hb7 hc7 B7 S7 D7 k07 eth7 elf7 k711
  have tb : ∀ m ∈ ks, 0 ≤ t m ∧ t m < gs2.length := fun m hm => by
    obtain ⟨_, _, _, _, _, h3, h4⟩ := I3.at_ m hm
    have := (List.getElem?_eq_some_iff.mp h4).1
    omega
  (repeat kaf_suf)
  refine ⟨rfl, s, L1, L2, MS, gs2, ds2, gm.1.map t, gm.2.map t, rfl, S11, eL1', eL2, nL1S, nL2S, by omega, by rw [List.length_map]; omega, by rw [List.length_map]; omega, fun m hm => ?_, fun H12 e12 k12 S12 => ?_⟩
  · rw [← List.map_append] at hm
    obtain ⟨m', hm', rfl⟩ := List.mem_map.mp hm
    exact tb m' (hall m' hm')
  obtain ⟨f12, ef12, fl12, _⟩ := addG_grow (gs := gs2) (k := (canon (gm.1.map t), canon (gm.2.map t)))
  have mem12 := addG_mem gs2 (canon (gm.1.map t), canon (gm.2.map t))
  have ix12 := ixG_get mem12
  rw [ef12] at S12 ix12 ⊢
  have I12 := I3.grow (f := f12)
  have gnk : (gn : Int) ∉ ks := fun z => (List.nodup_append.mp nd).2.2 _ z _ hgl rfl
  have I13 := I12.add gnk hgg hall (y := (ixG (gs2 ++ f12) (canon (gm.1.map t), canon (gm.2.map t)) : Nat)) (by omega) (by rw [Int.toNat_natCast]; exact ix12)
  have eth12 := k12 _ _ nthS eth11
  have elf12 := k12 _ _ nlS elf11
  have B12 := B11.keepY k12 (fun x h => by
    rcases S11.cell h with ⟨l, e⟩ | ⟨l, e⟩
    · exact ⟨(fun _ z => by rw [e] at z; cases z), (fun _ _ _ z => by rw [e] at z; cases z)⟩
    · exact ⟨(fun _ z => by rw [e] at z; cases z), (fun _ _ _ z => by rw [e] at z; cases z)⟩) bS
  have D12 := D11.keep k12 fun x h z => sD x z h
  have k012 := k011.trans (k12.mono fun _ h => .inr h)
  have kl : ks.length ≤ 60 := by
    have := nodup_le ks ((List.range gs.length).map Int.ofNat) (List.nodup_append.mp nd).1 fun z hz => by
      have := (mem z).mp (List.mem_append_left _ hz)
      exact List.mem_map.mpr ⟨z.toNat, List.mem_range.mpr (by omega), by show ((z.toNat : Nat) : Int) = z; omega⟩
    rw [List.length_map, List.length_range] at this
    omega
  generalize hy : ixG (gs2 ++ f12) (canon (gm.1.map t), canon (gm.2.map t)) = y at I13 ix12 ⊢
  clear k12 S11 B11 D11 k011 hc11 eL1' eL2 eth11 elf11
  (repeat kaf_suf)
  refine v_setKT eth12 gnk (few1 (by omega)) ?_
  have kt : Keep (fun x => x = th) H12 (upd H12 th (.dK (kvT (ks ++ [(gn : Int)]) fun k => if k = (gn : Int) then (y : Int) else t k))) := Keep.refl.set rfl
  have nx : ∀ x, x = th → (∀ l, H12 x ≠ some (.tup l)) ∧ ∀ C d l, H12 x ≠ some (.ins C d l) := fun x e => by
    subst e
    exact ⟨(fun _ z => by rw [eth12] at z; cases z), (fun _ _ _ z => by rw [eth12] at z; cases z)⟩
  have B13 := B12.keepY kt nx fun x h e => nthB (e ▸ h)
  have S13 := S12.keepY kt nx fun x h e => nthS (e ▸ h)
  have D13 := D12.keep kt fun x h e => nthD (e ▸ h)
  have k013 := k012.setN (o := .dK (kvT (ks ++ [(gn : Int)]) fun k => if k = (gn : Int) then (y : Int) else t k)) hth
  have elf13 := get_set (u := .dK (kvT (ks ++ [(gn : Int)]) fun k => if k = (gn : Int) then (y : Int) else t k)) ntl.symm elf12
  have eth13 : (upd H12 th (.dK (kvT (ks ++ [(gn : Int)]) fun k => if k = (gn : Int) then (y : Int) else t k))) th = some (.dK (kvT (ks ++ [(gn : Int)]) fun k => if k = (gn : Int) then (y : Int) else t k)) := upd_same
  generalize upd H12 th (.dK (kvT (ks ++ [(gn : Int)]) fun k => if k = (gn : Int) then (y : Int) else t k)) = H13 at B13 S13 D13 k013 elf13 eth13 ⊢
  clear kt nx B12 S12 D12 k012 eth12 elf12
  have nd13 : (ks ++ [(gn : Int)] ++ lv.erase (gn : Int)).Nodup := by
    have p := (List.perm_cons_erase hgl)
    have := ((List.Perm.refl ks).append p).nodup_iff.mp nd
    rw [List.append_assoc]; exact this
  have mem13 : ∀ z : Int, z ∈ ks ++ [(gn : Int)] ++ lv.erase (gn : Int) ↔ 0 ≤ z ∧ z < gs.length := fun z => by
    rw [← mem z, List.append_assoc]
    exact ((List.Perm.refl ks).append (List.perm_cons_erase hgl)).mem_iff.symm
  have fl13 : (gs2 ++ f12).length = gs2.length + f12.length := List.length_append
  have yl := (List.getElem?_eq_some_iff.mp ix12).1
  have gin : (gn : Int) ∈ ks ++ [(gn : Int)] := List.mem_append_right _ (List.mem_singleton.mpr rfl)
  (repeat kaf_suf)
  refine ⟨rfl, d, 3, MD, rfl, by decide, by decide, D13, fun H14 u k14 D14 u0 u1 => ?_⟩
  have B14 := B13.keep k14 (fun _ h => D13.cell h) bD
  have S14 := S13.keep k14 (fun _ h => D13.cell h) sD
  have elf14 := k14 _ _ nlD elf13
  have eth14 := k14 _ _ nthD eth13
  have k014 := k013.trans (k14.mono fun _ h => .inl h)
  clear B13 S13 D13 elf13 eth13 k013 k14
  obtain ⟨cx14, cm14, cn14, cd14, hc14⟩ := S14.ins_
  (repeat kaf_suf)
  refine r_ite (fun hu => ?_) (fun hu => ?_)
  · (repeat kaf_suf)
    refine v_ixKT eth14 gin ?_
    rw [if_pos rfl]
    (repeat kaf_suf)
    intro q1 hq1
    have hc15 := get_new (u := .lst [.int y]) hq1 hc14
    have S15 := S14.same (Keep.alloc (o := .lst [.int y]) hq1)
    (repeat kaf_suf)
    refine ⟨rfl, s, MS, _, _, rfl, S15, ?_⟩
    (repeat kaf_suf)
    intro q2 hq2
    have kq2 := (Keep.alloc (M := Nil) (o := .lst [.int y]) hq1).new (o := .lst [.int ((gs2 ++ f12).length - 1)]) hq2
    have eq1 := get_new (u := .lst [.int ((gs2 ++ f12).length - 1)]) hq2 (upd_same (H := H14) (o := .lst [.int y]) (a := q1))
    have pos := S14.pos
    (repeat kaf_suf)
    refine ⟨rfl, s, q1, q2, MS, _, _, [(y : Int)], [((gs2 ++ f12).length - 1 : Int)], rfl, S14.same kq2, eq1, upd_same, S14.new hq1, S14.new (none_of_upd hq2), by omega, by simp, by simp, fun m hm => ?_, fun H16 e16 k16 S16 => ?_⟩
    · simp only [List.cons_append, List.nil_append, List.mem_cons, List.not_mem_nil, or_false] at hm
      omega
    obtain ⟨f16, ef16, fl16, _⟩ := addG_grow (gs := gs2 ++ f12) (k := (canon [(y : Int)], canon [((gs2 ++ f12).length - 1 : Int)]))
    rw [ef16] at S16
    have fl17 : (gs2 ++ f12 ++ f16).length = gs2.length + f12.length + f16.length := by rw [List.length_append, List.length_append]
    have kk := kq2.weak.trans k16
    have B16 := (B14.same kq2).keepY k16 (fun x h => by
      rcases (S14.same kq2).cell h with ⟨l, e⟩ | ⟨l, e⟩
      · exact ⟨(fun _ z => by rw [e] at z; cases z), (fun _ _ _ z => by rw [e] at z; cases z)⟩
      · exact ⟨(fun _ z => by rw [e] at z; cases z), (fun _ _ _ z => by rw [e] at z; cases z)⟩) bS
    (repeat kaf_suf)
    exact ⟨_, _, ks ++ [(gn : Int)], lv.erase (gn : Int), _, _, _, rfl, k014.trans (kk.mono fun _ h => .inr h), D14.keep kk fun x h z => sD x z h, B16, S16, by omega, I13.grow, nd13, mem13, kk _ _ nthS eth14, kk _ _ nlS elf14, by omega⟩
  · (repeat kaf_suf)
    exact ⟨_, _, ks ++ [(gn : Int)], lv.erase (gn : Int), _, _, _, rfl, k014, D14, B14, S14, by omega, I13, nd13, mem13, eth14, elf14, by omega⟩
theorem cal_law_moved {c : Cn} {mg : Str → Option Value} {base : Heap} (T : Txt c mg) : Cal c.P c.w c.K mg base CX0 4 "_law_moved" (sp_law_moved c) := by
  obtain ⟨f, fd, F, g, b⟩ := T.F_law_moved
  exact ⟨f, fd, ["deck", "book", "second"], F.ok (k := 3) (N := N_law_moved) sc_law_moved (fun vs H Q E h => h.1) (fun cdv A outer s H vs Q E hr h => ⟨t_law_moved c, by
  exact (pss_cons (ps_set (i := 3) sc_law_moved.nd rfl (Or.inr rfl) pe_dnew)
  (pss_cons (ps_set (i := 4) sc_law_moved.nd rfl (Or.inl rfl) (pe_listRg rfl rfl T.n_list (prg_1 rfl T.n_range (e_meth0 (met_Book_many T) hr (by decide) pass0 (pv 1)))))
  (pss_cons (ps_while PassesOwn.never (pt_cmpR (o_ne (hu64 hr)) (pv 4) (pe_lst pa_nil) (nomark _))
  (pss_cons (ps_setLc (i := 5) (own := [("g", 6)]) rfl sc_law_moved.nd rfl rfl (sw_true rfl rfl rfl (by decide +kernel)) (pi_any (pv 4)) (blkOk_by (own := [("g", 6)]) (N := N_law_moved) (sc := defScope s_law_moved) (by decide +kernel)) (fun _ _ _ _ _ => (pg_name (i := 6) sc_law_moved.nd rfl (Or.inl rfl))) (fun _ _ _ _ _ => (pts_one (pt_cmpR (o_eq (hu64 hr)) (pe_lc (own := [("one", 7)]) rfl sc_law_moved.nd (pi_any (pe_op o_add (e_meth (met_Book_lefts T) hr (by decide) pass0 (pv 1) (pa_cons (pv 6) pa_nil)) (e_meth (met_Book_rights T) hr (by decide) pass0 (pv 1) (pa_cons (pv 6) pa_nil)))) (blkOk_by (own := [("one", 7)]) (N := N_law_moved) (by rfl)) (fun _ _ _ _ _ => (pg_name (i := 7) sc_law_moved.nd rfl (Or.inl rfl))) (fun _ _ _ _ _ => (pts_one (pt_cmpR (o_notin (hu65 hr)) (pv 7) (pv 3) (by rfl)))) (fun _ _ _ _ _ => (pv 7))) (pe_lst pa_nil) (nomark _)))) (fun _ _ _ _ _ => (pv 6)))
  (pss_cons (ps_set (i := 6) sc_law_moved.nd rfl (Or.inl rfl) (pe_ix (x_ix (hu64 hr)) (pv 5) (e_call (cal_law_draw T) hr (by decide) pass0 rfl (pa_cons (pv 0) (pa_cons (pe_callB k_len (by rfl) T.n_len (by decide +kernel) (pa_cons (pv 5) pa_nil)) pa_nil))) (fun _ _ => rfl)))
  (pss_cons (ps_expr (pe_remX rfl takes0 (pv 4) (pv 6)))
  (pss_cons (ps_asg (e_meth (met_Book_game T) hr (by decide) pass0 (pv 2) (pa_cons (pe_lc (own := [("one", 7)]) rfl sc_law_moved.nd (pi_any (e_meth (met_Book_lefts T) hr (by decide) pass0 (pv 1) (pa_cons (pv 6) pa_nil))) (blkOk_by (own := [("one", 7)]) (N := N_law_moved) (sc := defScope s_law_moved) (by decide +kernel)) (fun _ _ _ _ _ => (pg_name (i := 7) sc_law_moved.nd rfl (Or.inl rfl))) (fun _ _ _ _ _ => pts_nil) (fun _ _ _ _ _ => (pe_ix (x_ix (hu64 hr)) (pv 3) (pv 7) (fun _ _ => rfl)))) (pa_cons (pe_lc (own := [("one", 7)]) rfl sc_law_moved.nd (pi_any (e_meth (met_Book_rights T) hr (by decide) pass0 (pv 1) (pa_cons (pv 6) pa_nil))) (blkOk_by (own := [("one", 7)]) (N := N_law_moved) (sc := defScope s_law_moved) (by decide +kernel)) (fun _ _ _ _ _ => (pg_name (i := 7) sc_law_moved.nd rfl (Or.inl rfl))) (fun _ _ _ _ _ => pts_nil) (fun _ _ _ _ _ => (pe_ix (x_ix (hu64 hr)) (pv 3) (pv 7) (fun _ _ => rfl)))) pa_nil))) (pg_sub (pv 3) (pv 6) (s_set (hu64 hr))))
  (pss_one (ps_if (pt_cmpR (o_eq (hu64 hr)) (e_call (cal_law_draw T) hr (by decide) pass0 rfl (pa_cons (pv 0) (pa_cons pe_int pa_nil))) pe_int (nomark _)) (pss_one (ps_expr (e_meth (met_Book_game T) hr (by decide) pass0 (pv 2) (pa_cons (pe_lst (pa_cons (pe_ix (x_ix (hu64 hr)) (pv 3) (pv 6) (fun _ _ => rfl)) pa_nil)) (pa_cons (pe_lst (pa_cons (pe_op o_sub (e_meth0 (met_Book_many T) hr (by decide) pass0 (pv 2)) pe_int) pa_nil)) pa_nil))))) pss_nil)))))))
  (pss_one (ps_ret (pv 3)))))), p_law_moved T h⟩), g, F.kp, b⟩

/-! rows, as values -/
theorem RowAt.rp {W : Addr → Prop} {H : Hp} {t : Addr} {g : Gm} (r : RowAt W H t g) : Rp Nil H (.ref t) (dRow g) := by
  obtain ⟨a, b, h1, h2, h3, _⟩ := r
  exact Rp.mk2 h1 (fun z => z) (Rp.ints h2 fun z => z) (Rp.ints h3 fun z => z)
theorem rows_rpA {W : Addr → Prop} {H : Hp} {ks : List Addr} {gs : List Gm} (p : Paired (RowAt W H) ks gs) : RpA Nil H (ks.map V.ref) (gs.map dRow) := by
  induction p with
  | nil => exact .nil
  | cons r _ ih => exact .cons r.rp ih
theorem RowsAt.rp {W : Addr → Prop} {H : Hp} {R : Addr} {gs : List Gm} (r : RowsAt W H R gs) : Rp Nil H (.ref R) (.list (gs.map dRow)) := by
  obtain ⟨ks, h, p⟩ := r
  exact .lst h (fun z => z) (rows_rpA p)
theorem eqv_rowsV (gs hs : List Gm) : PyData.eqv (.list (gs.map dRow)) (.list (hs.map dRow)) = decide (gs = hs) := by
  have f : ∀ gs hs : List Gm, PyData.eqvAll (gs.map dRow) (hs.map dRow) = decide (gs = hs) := by
    intro gs
    induction gs with
    | nil => intro hs; cases hs <;> simp [PyData.eqvAll]
    | cons g r ih =>
      intro hs
      cases hs with
      | nil => simp [PyData.eqvAll]
      | cons h t =>
        simp only [List.map_cons, PyData.eqvAll, eqv_dRow, ih t]
        by_cases e : g = h <;> by_cases e' : r = t <;> simp [e, e']
  simp only [PyData.eqv]; exact f gs hs
theorem v_eqRows {K : PySem.W.Frag} {W W' : Addr → Prop} {H : Hp} {Q : VK} {x y : V} {gs hs : List Gm} (h1 : Rp W H x (.list (gs.map dRow))) (h2 : Rp W' H y (.list (hs.map dRow))) (q : Q (.bl (decide (gs = hs))) H) : cEq K x y H Q :=
  .inr ⟨_, _, Rp.dp _ _ h1, Rp.dp _ _ h2, dRows_sh _, dRows_sh _, by rw [eqv_rowsV]; exact q⟩
theorem v_neRows {K : PySem.W.Frag} {W W' : Addr → Prop} {H : Hp} {Q : VK} {x y : V} {gs hs : List Gm} (h1 : Rp W H x (.list (gs.map dRow))) (h2 : Rp W' H y (.list (hs.map dRow))) (q : Q (.bl (!decide (gs = hs))) H) : cNe K x y H Q :=
  .inr ⟨_, _, Rp.dp _ _ h1, Rp.dp _ _ h2, dRows_sh _, dRows_sh _, by rw [eqv_rowsV]; exact q⟩
/-- [(book.lefts(g), book.rights(g)) for g in range(n)] -/
theorem lc_rows {c : Cn} {b : Addr} {M : Addr → Prop} {gs : List Gm} {ds : List Int} {ib ig n : Nat} {σ : L2.St} {H : Hp} {Q : VK} (B : BookAt c H b M gs ds) (hn : n ≤ gs.length) (few : gs.length ≤ 90000)
    (h1 : ∀ v, ((wipe σ [ig]).set ig (some v))[ib]? = some (some (.ref b))) (h2 : ∀ v, ((wipe σ [ig]).set ig (some v))[ig]? = some (some v)) (h3 : ∀ v, wipe ((wipe σ [ig]).set ig (some v)) [ig] = wipe σ [ig])
    (k : ∀ (D : Addr) (H' : Hp), H D = none → Keep Nil H H' → Rp Nil H' (.ref D) (.list ((gs.take n).map dRow)) → Q (.ref D) H') :
    kLc (Itr 0 n) (gName ig) tYes (tTup (tCons (tMeth c.cBook ("lefts" : Str) (sp_Book_lefts c) [] E0 (tVar ib) (tCons (tVar ig) tNil)) (tCons (tMeth c.cBook ("rights" : Str) (sp_Book_rights c) [] E0 (tVar ib) (tCons (tVar ig) tNil)) tNil))) [ig] σ H Q := by
  refine lcT (α := Nat) Nil (fun i => PyData.int (0 + (i : Nat))) (List.range n) (fun _ => true) (fun i => dRow (gs[i]?.getD ([], []))) Al.nil (few1 (by rw [List.length_range]; omega)) (fun D hD => yv_rng) ?_ ?_
  · intro D i x d H1 R N hD hd k1 al rx hR hN
    cases rx.int_
    have hi := (List.getElem?_eq_some_iff.mp hd).1
    rw [List.length_range] at hi
    have ed : d = i := by rw [List.getElem?_range hi] at hd; exact (Option.some.inj hd).symm
    subst ed
    have hg : gs[d]? = some gs[d] := List.getElem?_eq_getElem (by omega)
    have B1 := B.same k1
    obtain ⟨bx, bm, bn, bd, hb⟩ := B1.ins_
    refine r_gname ⟨h3 _, r_yes (r_ite_tt (r_tup (r_cons (r_meth (r_var (h1 _) (r_kmeth hb bookFs_lefts (r_cons (r_var (h2 _) (r_nil ?_))))))))) ⟩
    refine ⟨rfl, b, M, gs, ds, d, gs[d], by rw [Int.zero_add], B1, hg, fun p1 hp1 => ?_⟩
    refine r_cons (r_meth (r_var (h1 _) (r_kmeth (get_new hp1 hb) bookFs_rights (r_cons (r_var (h2 _) (r_nil ?_))))))
    refine ⟨rfl, b, M, gs, ds, d, gs[d], by rw [Int.zero_add], B1.same (Keep.alloc hp1), hg, fun p2 hp2 => ?_⟩
    refine r_nil (r_ktup (by simp) fun p3 hp3 => ?_)
    have kk : Keep Nil H1 (upd (upd (upd H1 p1 (.lst (gs[d].1.map V.int))) p2 (.lst (gs[d].2.map V.int))) p3 (.tup [.ref p1, .ref p2])) := ((Keep.alloc hp1).new hp2).new hp3
    refine hR _ _ kk ?_ rfl
    have ew : ∀ q, H1 q = none → ¬ (Nil q ∨ q = D) := al
    rw [show gs[d]?.getD ([], []) = gs[d] by rw [hg]; rfl]
    exact Rp.mk2 upd_same (al _ (none_of_upd (none_of_upd hp3))) (Rp.ints (get_new hp3 (get_new hp2 upd_same)) (al _ hp1)) (Rp.ints (get_new hp3 upd_same) (al _ (none_of_upd hp2)))
  · intro D H' hD kk r
    refine k D H' hD kk ?_
    rw [filter_tt] at r
    have e : (List.range n).map (fun i => dRow (gs[i]?.getD ([], []))) = (gs.take n).map dRow := by
      refine List.ext_getElem? fun i => ?_
      rw [List.getElem?_map, List.getElem?_map, List.getElem?_take]
      by_cases h : i < n
      · rw [List.getElem?_range h, if_pos h, List.getElem?_eq_getElem (show i < gs.length by omega)]
        show some (dRow (gs[i]?.getD ([], []))) = some (dRow gs[i])
        rw [List.getElem?_eq_getElem (show i < gs.length by omega)]; rfl
      · rw [if_neg h, List.getElem?_eq_none (by rw [List.length_range]; omega)]; rfl
    rw [e] at r; exact r

abbrev N_law : List Str := ["script", "deck", "book", "rows", "second", "there", "g", "third", "lefts", "rights", "one"]
theorem sc_law : FnScope N_law ["script"] (defScope s_law) := ⟨rfl, rfl, rfl, by decide +kernel, rfl, by decide +kernel, by decide +kernel⟩
def t_law (c : Cn) : TS :=
  (tSeq (tAsg (tCall (sp_law_deck c) [] E0 (tCons (tVar 0) tNil)) (gName 1))
  (tSeq (tAsg (tMake c.cBook (sp_Book_init c) [] E0 tNil) (gName 2))
  (tSeq (tAsg (tCall (sp_law_grown c) [] E0 (tCons (tVar 1) (tCons (tVar 2) (tCons (tOp (bAdd c.K) (tC (.int 6)) (tCall (sp_law_draw c) [] E0 (tCons (tVar 1) (tCons (tC (.int 25)) tNil)))) tNil)))) (gName 3))
  (tSeq (tIfS (tOr (tTest (tOp cIs (tVar 3) (tC .non))) (tNot (tTru c.K (tCall (sp_law_sound c) [] E0 (tCons (tVar 2) tNil)))))
  (tRet (tC (.bl false)))
  tNext)
  (tSeq (tAsg (tMake c.cBook (sp_Book_init c) [] E0 tNil) (gName 4))
  (tSeq (tAsg (tCall (sp_law_moved c) [] E0 (tCons (tVar 1) (tCons (tVar 2) (tCons (tVar 4) tNil)))) (gName 5))
  (tSeq (tIfS (tOr (tTest (tOp (cNe c.K) (tCB (kLenS c.w) (tCons (tCB (uSetI c.K c.w) (tCons (tCB rListV (tCons (tBM0 c.K "dict" rDVals (tVar 5)) tNil)) tNil)) tNil)) (tCB (kLen c.K) (tCons (tVar 3) tNil)))) (tNot (tTru c.K (tCall (sp_law_sound c) [] E0 (tCons (tVar 4) tNil)))))
  (tRet (tC (.bl false)))
  tNext)
  (tSeq (tFor (iRng1 (tCons (tCB (kLen c.K) (tCons (tVar 3) tNil)) tNil)) (gName 6)
  (tSeq (tIfS (tTest (tOp (cNe c.K) (tMeth c.cBook "lefts" (sp_Book_lefts c) [] E0 (tVar 4) (tCons (tOp (bIx c.P c.w c.K) (tVar 5) (tVar 6)) tNil)) (tCB (kSorted c.K c.w) (tCons (tLc (iAny c.K (tOp (bIx c.P c.w c.K) (tOp (bIx c.P c.w c.K) (tVar 3) (tVar 6)) (tC (.int 0)))) (gName 10) tYes (tOp (bIx c.P c.w c.K) (tVar 5) (tVar 10)) [10]) tNil))))
  (tRet (tC (.bl false)))
  tNext)
  (tSeq (tIfS (tTest (tOp (cNe c.K) (tMeth c.cBook "rights" (sp_Book_rights c) [] E0 (tVar 4) (tCons (tOp (bIx c.P c.w c.K) (tVar 5) (tVar 6)) tNil)) (tCB (kSorted c.K c.w) (tCons (tLc (iAny c.K (tOp (bIx c.P c.w c.K) (tOp (bIx c.P c.w c.K) (tVar 3) (tVar 6)) (tC (.int 1)))) (gName 10) tYes (tOp (bIx c.P c.w c.K) (tVar 5) (tVar 10)) [10]) tNil))))
  (tRet (tC (.bl false)))
  tNext)
  (tIfS (tTest (tOp (cNe c.K) (tMeth c.cBook "depth" (sp_Book_depth c) [] E0 (tVar 4) (tCons (tOp (bIx c.P c.w c.K) (tVar 5) (tVar 6)) tNil)) (tMeth c.cBook "depth" (sp_Book_depth c) [] E0 (tVar 2) (tCons (tVar 6) tNil))))
  (tRet (tC (.bl false)))
  tNext))))
  (tSeq (tAsg (tMake c.cBook (sp_Book_init c) [] E0 tNil) (gName 7))
  (tSeq (tFor (iAny c.K (tVar 3)) (gSeq c.K 2 (gCons (gName 8) (gCons (gName 9) gNil)))
  (tDrop (tMeth c.cBook "game" (sp_Book_game c) [] E0 (tVar 7) (tCons (tVar 8) (tCons (tVar 9) tNil)))))
  (tSeq (tIfS (tTest (tOp (cNe c.K) (tLc (iRng1 (tCons (tMeth c.cBook "many" (sp_Book_many c) [] E0 (tVar 7) tNil) tNil)) (gName 6) tYes (tTup (tCons (tMeth c.cBook "lefts" (sp_Book_lefts c) [] E0 (tVar 7) (tCons (tVar 6) tNil)) (tCons (tMeth c.cBook "rights" (sp_Book_rights c) [] E0 (tVar 7) (tCons (tVar 6) tNil)) tNil))) [6]) (tVar 3)))
  (tRet (tC (.bl false)))
  tNext)
  (tRet (tOp (cEq c.K) (tLc (iRng1 (tCons (tMeth c.cBook "many" (sp_Book_many c) [] E0 (tVar 2) tNil) tNil)) (gName 6) tYes (tTup (tCons (tMeth c.cBook "lefts" (sp_Book_lefts c) [] E0 (tVar 2) (tCons (tVar 6) tNil)) (tCons (tMeth c.cBook "rights" (sp_Book_rights c) [] E0 (tVar 2) (tCons (tVar 6) tNil)) tNil))) [6]) (tVar 3))))))))))))))
theorem lt_nd {l : List Int} (h : l.Pairwise (· < ·)) : l.Nodup := h.imp fun {a b} lt e => by omega
theorem addG_take {gs : List Gm} (o : GOk gs) {i : Nat} {g : Gm} (h : gs[i]? = some g) : addG (gs.take (max 1 i)) (canon g.1, canon g.2) = gs.take (max 1 (i + 1)) := by
  have u := o.up g (List.mem_of_getElem? h)
  rw [canon_self u.1, canon_self u.2]
  have hi := (List.getElem?_eq_some_iff.mp h).1
  cases i with
  | zero =>
    have : g = ([], []) := by have := o.zero; rw [h] at this; exact Option.some.inj this
    subst this
    show addG (gs.take 1) ([], []) = gs.take 1
    have e : gs.take 1 = [([], [])] := by
      rw [show (1 : Nat) = 0 + 1 from rfl, List.take_succ, h]; rfl
    rw [e]; unfold addG; simp
  | succ i =>
    rw [show max 1 (i + 1) = i + 1 by omega, show max 1 (i + 1 + 1) = i + 1 + 1 by omega]
    have ni : (g.1, g.2) ∉ gs.take (i + 1) := not_before o.nd h
    unfold addG
    rw [if_neg ni, List.take_succ (i := i + 1), h]; rfl
def sp_law_law (K : PySem.W.Frag) : Sp := fun vs H Q E => vs.length = 1 ∧ ∃ (a : Addr) (ns : List Int), vs = [.ref a] ∧ SqL K H a (ns.map V.int) ∧ ns.length ≤ 63 ∧ ∀ H', Q (.bl true) H'
theorem p_law {c : Cn} {mg : Str → Option Value} (T : Txt c mg) {vs : List V} {H : Hp} {Q : VK} {E : XK} (h : sp_law_law c.K vs H Q E) : t_law c { nx := fun _ H' => Q .non H', rt := Q } (start N_law vs) H := by
  obtain ⟨_, a, ns, rfl, hs, few, k⟩ := h
  unfold t_law
  repeat kaf_suf
  refine ⟨rfl, a, ns, rfl, hs, few, fun H1 d MD k1 D1 nD => ?_⟩
  repeat kaf_suf
  intro b dx hb hdx ndx
  repeat kaf_suf
  refine ⟨rfl, b, dx, rfl, upd_same, fun H2 MB k2 B2 nB => ⟨rfl, ?_⟩⟩
  have nbD : ∀ x, MB x → ¬ MD x := fun x h z => by
    have h0 := none_of_upd (none_of_upd (nB x h))
    exact D1.dom z h0
  have D2 : DeckAt H2 d MD := (D1.keep (Keep.new (Keep.alloc (o := .own b) hdx) (by rw [upd_ne (fun z => ndx z.symm)]; exact hb)) fun _ _ z => z).keep k2 fun x h z => D1.dom h (by rw [z]; exact hb)
  repeat kaf_suf
  refine ⟨rfl, d, 25, MD, rfl, by decide, by decide, D2, fun H3 n k3 D3 n0 n1 => ?_⟩
  have B3 := B2.keep k3 (fun _ h => D2.cell h) nbD
  repeat kaf_suf
  refine ⟨rfl, d, b, _, MD, MB, rfl, by omega, by omega, D3, B3, nbD, fun H4 R gs ds L4 hg => ?_⟩
  clear D3 B3 k3 D2 B2 nB k2 hb hdx k1 D1 nD
  have pos := L4.B.pos
  have go := L4.B.ok
  obtain ⟨ks4, hks4, pks4⟩ := id L4.rows
  have hkm : (ks4.map V.ref).length = gs.length := by rw [List.length_map, Paired.length pks4]
  repeat kaf_suf
  refine r_iteF' (p := V.ref R = V.non) (fun z => by cases z) ?_
  repeat kaf_suf
  refine ⟨rfl, b, MB, gs, ds, rfl, L4.B, by omega, fun H5 k5 B5 => ⟨true, rfl, ?_⟩⟩
  have L5 := L4.game k5 B5
  have hks5 := k5 _ _ L4.s3 hks4
  have pks5 : Paired (RowAt (Wd MD MB R) H5) ks4 gs := paired_keep pks4 fun t g r => r.keep (k5.mono fun _ h => .inr (.inl h))
  clear hks4 pks4 k5 B5 L4
  repeat kaf_suf
  intro s dxs hs hdx ndx
  repeat kaf_suf
  refine ⟨rfl, s, dxs, rfl, upd_same, fun H6 MS k6 S6 nS => ⟨rfl, ?_⟩⟩
  have k56 : Keep Nil H5 H6 := ((((Keep.alloc (o := .own s) hdx).new (o := .ins c.cBook dxs []) (by rw [upd_ne (fun z => ndx z.symm)]; exact hs)).weak (M := fun x => x = s)).trans k6 |>.mono (N := fun x => Nil x ∨ x = s) fun _ h => .inr h).hide hs
  have nS5 : ∀ x, MS x → H5 x = none := fun x h => none_of_upd (none_of_upd (nS x h))
  have sD : ∀ x, MS x → ¬ MD x := fun x h z => L5.D.dom z (nS5 x h)
  have bS : ∀ x, MB x → ¬ MS x := fun x h z => L5.B.new (nS5 x z) h
  have nRS : ¬ MS R := fun z => by have := nS5 R z; rw [hks5] at this; cases this
  have L6 := L5.same k56
  have pks6 : Paired (RowAt (fun x => MD x ∨ MS x) H6) ks4 gs := paired_keep pks5 fun t g r => by
    obtain ⟨u, v, h1, h2, h3, n1, n2, n3⟩ := r
    have nn : ∀ x o, H5 x = some o → ¬ Wd MD MB R x → ¬ (MD x ∨ MS x) := fun x o e n z => z.elim (fun z => n (.inl z)) fun z => by rw [nS5 x z] at e; cases e
    exact ⟨u, v, k56 _ _ (fun z => z) h1, k56 _ _ (fun z => z) h2, k56 _ _ (fun z => z) h3, nn _ _ h1 n1, nn _ _ h2 n2, nn _ _ h3 n3⟩
  have hks6 := k56.get (fun z => z) hks5
  clear k6 nS nS5 k56 hs hdx L5 hks5 pks5
  repeat kaf_suf
  refine ⟨rfl, d, b, s, MD, MB, MS, gs, ds, rfl, L6.D, L6.B, S6, by omega, nbD, sD, bS, fun H7 th ks t gs2 ds2 k7 D7 B7 S7 fw2 I nd mem hth eth => ?_⟩
  have hks7 := k7 _ _ (fun z => z.elim L6.s2 nRS) hks6
  have pks7 : Paired (RowAt (fun x => MD x ∨ MS x) H7) ks4 gs := paired_keep pks6 fun t g r => r.keep k7
  clear k7 L6 hks6 S6
  have hkl : ks4.length = gs.length := by rw [← hkm, List.length_map]
  have ksl : ks.length = gs.length := by
    have h1 := nodup_le ks ((List.range gs.length).map Int.ofNat) nd fun z hz => by
      have := (mem z).mp hz
      exact List.mem_map.mpr ⟨z.toNat, List.mem_range.mpr (by omega), by show ((z.toNat : Nat) : Int) = z; omega⟩
    have h2 := nodup_le ((List.range gs.length).map Int.ofNat) ks (List.pairwise_map.mpr (List.nodup_range.imp fun {x y} ne e => ne (by injection e))) fun z hz => by
      obtain ⟨x, hx, rfl⟩ := List.mem_map.mp hz
      have := List.mem_range.mp hx
      exact (mem _).mpr ⟨Int.natCast_nonneg x, by show (x : Int) < _; omega⟩
    rw [List.length_map, List.length_range] at h1 h2
    omega
  have inj : ∀ x ∈ ks, ∀ y ∈ ks, t x = t y → x = y := fun x hx y hy e => Iso.inj go I _ x y (Nat.lt_succ_self _) hx hy e
  repeat kaf_suf
  refine r_dvals eth fun p1 hp1 => ?_
  repeat kaf_suf
  refine v_listV upd_same (get_new hp1 eth) fun p2 hp2 => ?_
  have e2 : (kvT ks t).map (·.2) = (ks.map t).map V.int := by unfold kvT; rw [List.map_map, List.map_map]; rfl
  rw [e2]
  repeat kaf_suf
  intro p3 c3 hp3 _
  repeat kaf_suf
  refine v_lenS upd_same fun es ne me => ?_
  have k8 : Keep Nil H7 (upd (upd (upd H7 p1 (ValO th p1)) p2 (.lst ((ks.map t).map V.int))) p3 (SetO c.w p3 (fun j => decide (j ∈ ks.map t)) c3)) := ((Keep.alloc hp1).new hp2).new hp3
  have L8l := k8.get (fun z => z) hks7
  have eth8 := k8.get (fun z => z) eth
  have D8 := D7.keep k8 fun _ _ z => z
  have B8 := B7.same k8
  have S8 := S7.same k8
  have pks8 := paired_keep pks7 fun t g (r : RowAt _ _ t g) => r.keep k8.weak
  generalize upd (upd (upd H7 p1 (ValO th p1)) p2 (.lst ((ks.map t).map V.int))) p3 (SetO c.w p3 (fun j => decide (j ∈ ks.map t)) c3) = H8 at L8l eth8 D8 B8 S8 pks8 ⊢
  clear k8 hp1 hp2 hp3 hks7 eth D7 B7 S7 pks7
  have nt : (ks.map t).Nodup := List.pairwise_map.mpr (List.Pairwise.imp_of_mem (fun {a b} ha hb ne e => ne (inj a ha b hb e)) nd)
  have esl : es.length = gs.length := by
    have h1 := nodup_le es (ks.map t) ne fun z hz => (me z).mp hz
    have h2 := nodup_le (ks.map t) es nt fun z hz => (me z).mpr hz
    rw [List.length_map] at h1 h2
    omega
  repeat kaf_suf
  refine ⟨rfl, s, MS, gs2, ds2, rfl, S8, by omega, fun H9 k9 S9 => ⟨true, rfl, ?_⟩⟩
  have hks9 := k9 _ _ nRS L8l
  have nthS : ¬ MS th := fun z => by
    rcases S8.cell z with ⟨l, e⟩ | ⟨l, e⟩ <;> rw [eth8] at e <;> cases e
  have eth9 := k9 _ _ nthS eth8
  have B9 := B8.keepY k9 (fun x h => by
    rcases S8.cell h with ⟨l, e⟩ | ⟨l, e⟩
    · exact ⟨(fun _ z => by rw [e] at z; cases z), (fun _ _ _ z => by rw [e] at z; cases z)⟩
    · exact ⟨(fun _ z => by rw [e] at z; cases z), (fun _ _ _ z => by rw [e] at z; cases z)⟩) bS
  have pks9 : Paired (RowAt Nil H9) ks4 gs := paired_keep pks8 fun t g r => by
    obtain ⟨u, v, h1, h2, h3, n1, n2, n3⟩ := r
    exact ⟨u, v, k9 _ _ (fun z => n1 (.inr z)) h1, k9 _ _ (fun z => n2 (.inr z)) h2, k9 _ _ (fun z => n3 (.inr z)) h3, fun z => z, fun z => z, fun z => z⟩
  clear k9 S8 B8 D8 L8l eth8 pks8
  repeat kaf_suf
  refine for_range (lo := 0) (n := ((ks4.map V.ref).length : Int).toNat) (fun i σ H' => ∃ x6, σ = [some (.ref a), some (.ref d), some (.ref b), some (.ref R), some (.ref s), some (.ref th), x6, none, none, none, none] ∧ Keep Nil H9 H') ⟨_, rfl, Keep.refl⟩ ?_ ?_
  · rintro i σ H1 hi ⟨x6, rfl, kk⟩
    have hi' : i < gs.length := by omega
    obtain ⟨gm, hgm⟩ : ∃ g, gs[i]? = some g := ⟨_, List.getElem?_eq_getElem hi'⟩
    obtain ⟨r, hr, ra, rb, t1, t2, t3, _⟩ := paired_get pks9 hgm
    have ik : (i : Int) ∈ ks := (mem _).mpr ⟨by omega, by omega⟩
    obtain ⟨n', gm', e', h1', hall, y0, hy⟩ := I.at_ _ ik
    have : n' = i := by omega
    subst this
    rw [hgm] at h1'
    cases h1'
    obtain ⟨de, hde⟩ : ∃ e, ds[n']? = some e := ⟨_, List.getElem?_eq_getElem (by have := B9.dok.len; omega)⟩
    have hde2 := Iso.dep go B9.dok S9.ok S9.dok I _ n' (Nat.lt_succ_self _) ik de hde
    obtain ⟨y, hyy⟩ := Int.eq_ofNat_of_zero_le y0
    rw [hyy, Int.toNat_natCast] at hy hde2
    have up := go.up gm (List.mem_of_getElem? hgm)
    have gl := gm_len2 B9 hgm
    have B1 := B9.same kk
    have S1 := S9.same kk
    have eth1 := kk.get (fun z => z) eth9
    have hR1 := kk.get (fun z => z) hks9
    have t11 := kk.get (fun z => z) t1
    have t21 := kk.get (fun z => z) t2
    have t31 := kk.get (fun z => z) t3
    have hx : atI (ks4.map V.ref) (0 + (n' : Int)) = some (V.ref r) := atI_get (n := n') (by rw [List.getElem?_map, hr]; rfl) (by omega)
    have z0 : (0 + (n' : Int)) = (n' : Int) := by omega
    rw [z0] at hx ⊢
    have nl : ∀ {l : List Int}, (∀ x ∈ l, x ∈ ks) → ∀ x ∈ l, ∀ y ∈ l, t x = t y → x = y := fun q x hx y hy e => inj x (q x hx) y (q y hy) e
    obtain ⟨cx1, cm1, cn1, cd1, hc1⟩ := S1.ins_
    repeat kaf_suf
    refine v_ixKT eth1 ik ?_
    repeat kaf_suf
    rw [hyy]
    refine ⟨rfl, s, MS, gs2, ds2, y, _, rfl, S1, hy, fun p1 hp1 => ?_⟩
    have k1 : Keep Nil H1 (upd H1 p1 (.lst ((canon (gm.1.map t)).map V.int))) := Keep.alloc hp1
    have ep1 : (upd H1 p1 (.lst ((canon (gm.1.map t)).map V.int))) p1 = some (.lst ((canon (gm.1.map t)).map V.int)) := upd_same
    generalize upd H1 p1 (.lst ((canon (gm.1.map t)).map V.int)) = H2 at k1 ep1 ⊢
    have t22 := k1.get (fun z => z) t21
    have hR2 := k1.get (fun z => z) hR1
    have t12 := k1.get (fun z => z) t11
    repeat kaf_suf
    refine lcT Nil PyData.int gm.1 (fun _ => true) (fun m => .int (t m)) Al.nil (few1 (by omega)) (fun D hD => yv_list t22 (fun z => z.elim (fun z => z) fun e => (ne_old hD t22) e) (RpA.ints _)) ?_ ?_
    · intro D2 j x m H9 R2 N2 hD2 hm k9 al9 rx hR2 hN2
      cases rx.int_
      have eth9 := (k1.trans k9).get (fun z => z) eth1
      have hmk := hall m (List.mem_append_left _ (List.mem_of_getElem? hm))
      repeat kaf_suf
      refine ⟨rfl, ?_⟩
      repeat kaf_suf
      refine v_ixKT eth9 hmk ?_
      exact hR2 _ _ Keep.refl (.int _) rfl
    intro L1 H3 hL1 k3 rL1
    rw [filter_tt, show gm.1.map (fun m => PyData.int (t m)) = (gm.1.map t).map PyData.int by rw [List.map_map]; rfl] at rL1
    obtain ⟨l1, el1, eL1, _⟩ := rL1.ints_
    cases el1
    repeat kaf_suf
    intro ns1 p3 pr1 ri1 hp3
    rw [sorted_canon (lt_nd up.1) (nl fun x h => hall x (List.mem_append_left _ h)) pr1 ri1]
    refine v_neD (dp_ints (get_new hp3 (k3.get (fun z => z) ep1))) (dp_ints upd_same) (dInts_sh _) (dInts_sh _) ?_
    rw [eqv_dInts, decide_eq_true rfl]
    have k4 : Keep Nil H1 (upd H3 p3 (.lst ((canon (gm.1.map t)).map V.int))) := (k1.trans k3).new hp3
    generalize upd H3 p3 (.lst ((canon (gm.1.map t)).map V.int)) = H4 at k4 ⊢
    clear hp3 pr1 ri1 eL1 rL1 k3 hL1 t22 hR2 t12 ep1 k1 hp1
    have hc4 := k4.get (fun z => z) hc1
    have eth4 := k4.get (fun z => z) eth1
    repeat kaf_suf
    refine v_ixKT eth4 ik ?_
    repeat kaf_suf
    rw [hyy]
    refine ⟨rfl, s, MS, gs2, ds2, y, _, rfl, S1.same k4, hy, fun p1 hp1 => ?_⟩
    have k5 : Keep Nil H1 (upd H4 p1 (.lst ((canon (gm.2.map t)).map V.int))) := k4.new hp1
    have ep1 : (upd H4 p1 (.lst ((canon (gm.2.map t)).map V.int))) p1 = some (.lst ((canon (gm.2.map t)).map V.int)) := upd_same
    generalize upd H4 p1 (.lst ((canon (gm.2.map t)).map V.int)) = H5 at k5 ep1 ⊢
    have t32 := k5.get (fun z => z) t31
    have hR5 := k5.get (fun z => z) hR1
    have t15 := k5.get (fun z => z) t11
    repeat kaf_suf
    refine lcT Nil PyData.int gm.2 (fun _ => true) (fun m => .int (t m)) Al.nil (few1 (by omega)) (fun D hD => yv_list t32 (fun z => z.elim (fun z => z) fun e => (ne_old hD t32) e) (RpA.ints _)) ?_ ?_
    · intro D2 j x m H9 R2 N2 hD2 hm k9 al9 rx hR2 hN2
      cases rx.int_
      have eth9 := (k5.trans k9).get (fun z => z) eth1
      have hmk := hall m (List.mem_append_right _ (List.mem_of_getElem? hm))
      repeat kaf_suf
      refine ⟨rfl, ?_⟩
      repeat kaf_suf
      refine v_ixKT eth9 hmk ?_
      exact hR2 _ _ Keep.refl (.int _) rfl
    intro L2 H6 hL2 k6 rL2
    rw [filter_tt, show gm.2.map (fun m => PyData.int (t m)) = (gm.2.map t).map PyData.int by rw [List.map_map]; rfl] at rL2
    obtain ⟨l2, el2, eL2, _⟩ := rL2.ints_
    cases el2
    repeat kaf_suf
    intro ns2 p3 pr2 ri2 hp3
    rw [sorted_canon (lt_nd up.2) (nl fun x h => hall x (List.mem_append_right _ h)) pr2 ri2]
    refine v_neD (dp_ints (get_new hp3 (k6.get (fun z => z) ep1))) (dp_ints upd_same) (dInts_sh _) (dInts_sh _) ?_
    rw [eqv_dInts, decide_eq_true rfl]
    have k7 : Keep Nil H1 (upd H6 p3 (.lst ((canon (gm.2.map t)).map V.int))) := (k5.trans k6).new hp3
    generalize upd H6 p3 (.lst ((canon (gm.2.map t)).map V.int)) = H7 at k7 ⊢
    clear hp3 pr2 ri2 eL2 rL2 k6 hL2 t32 hR5 t15 ep1 k5 hp1
    have hc7 := k7.get (fun z => z) hc1
    have eth7 := k7.get (fun z => z) eth1
    have B7 := B1.same k7
    obtain ⟨bx1, bm1, bn1, bd1, hb1⟩ := B7.ins_
    repeat kaf_suf
    refine v_ixKT eth7 ik ?_
    repeat kaf_suf
    rw [hyy]
    refine ⟨rfl, s, MS, gs2, ds2, y, de, rfl, S1.same k7, hde2, ?_⟩
    repeat kaf_suf
    refine ⟨rfl, b, MB, gs, ds, n', de, rfl, B7, hde, ?_⟩
    repeat kaf_suf
    exact ⟨_, rfl, kk.trans k7⟩
  rintro σ H1 ⟨x6, rfl, kk⟩
  have pks1 := paired_keep pks9 fun t g (r : RowAt _ _ t g) => r.keep kk
  have hR1 := kk.get (fun z => z) hks9
  have B1 := B9.same kk
  clear kk pks9 hks9 eth9 S9 B9 esl nt ne me
  repeat kaf_suf
  intro u dxu hu hdx ndx
  repeat kaf_suf
  refine ⟨rfl, u, dxu, rfl, upd_same, fun H2 MU k2 U2 nU => ⟨rfl, ?_⟩⟩
  have k12 : Keep Nil H1 H2 := ((((Keep.alloc (o := .own u) hdx).new (o := .ins c.cBook dxu []) (by rw [upd_ne (fun z => ndx z.symm)]; exact hu)).weak (M := fun x => x = u)).trans k2 |>.mono (N := fun x => Nil x ∨ x = u) fun _ h => .inr h).hide hu
  have nU1 : ∀ x, MU x → H1 x = none := fun x h => none_of_upd (none_of_upd (nU x h))
  have nRU : ¬ MU R := fun z => by have := nU1 R z; rw [hR1] at this; cases this
  have bU : ∀ x, MB x → ¬ MU x := fun x h z => B1.new (nU1 x z) h
  have pks2 : Paired (RowAt MU H2) ks4 gs := paired_keep pks1 fun t g r => by
    obtain ⟨u, v, h1, h2, h3, n1, n2, n3⟩ := r
    have nn : ∀ x o, H1 x = some o → ¬ MU x := fun x o e z => by rw [nU1 x z] at e; cases e
    exact ⟨u, v, k12 _ _ (fun z => z) h1, k12 _ _ (fun z => z) h2, k12 _ _ (fun z => z) h3, nn _ _ h1, nn _ _ h2, nn _ _ h3⟩
  have hR2 := k12.get (fun z => z) hR1
  have B2 := B1.same k12
  have u1 : gs.take 1 = [([], [])] := by
    have h := go.zero
    rw [show (1 : Nat) = 0 + 1 from rfl, List.take_succ, h]; rfl
  clear k2 nU nU1 hu hdx hR1 pks1 B1 k12
  repeat kaf_suf
  refine for_list (xs := ks4.map V.ref) (fun i σ H' => ∃ x8 x9 dsu, σ = [some (.ref a), some (.ref d), some (.ref b), some (.ref R), some (.ref s), some (.ref th), x6, some (.ref u), x8, x9, none] ∧ Keep MU H2 H' ∧ BookAt c H' u MU (gs.take (max 1 i)) dsu) ⟨_, _, _, rfl, Keep.refl, by rw [show max 1 0 = 1 from rfl, u1]; exact U2⟩ ?_ ?_ ?_
  · rintro i σ H' _ ⟨_, _, _, _, kk, _⟩; exact SqL.of (kk _ _ nRU hR2)
  · rintro i x σ H3 hi ⟨x8, x9, dsu, rfl, kk, U3⟩
    have hi2 : i < gs.length := by
      have := (List.getElem?_eq_some_iff.mp hi).1
      rw [List.length_map] at this; omega
    obtain ⟨gm, hgm⟩ : ∃ g, gs[i]? = some g := ⟨_, List.getElem?_eq_getElem hi2⟩
    obtain ⟨r, hr, rt⟩ := paired_get pks2 hgm
    rw [List.getElem?_map, hr] at hi
    cases hi
    obtain ⟨ra, rb, t1, t2, t3, n1, n2, n3⟩ := rt.keep kk
    have gl := gm_len2 B2 hgm
    have low := go.low i gm hgm
    have tl : (gs.take (max 1 i)).length = max 1 i := by rw [List.length_take]; omega
    obtain ⟨bx1, bm1, bn1, bd1, hb1⟩ := U3.ins_
    refine r_seqT t1 rfl (r_gcons ?_)
    repeat kaf_suf
    refine r_gcons ?_
    repeat kaf_suf
    refine r_gnil ?_
    repeat kaf_suf
    refine ⟨rfl, u, ra, rb, MU, _, _, gm.1, gm.2, rfl, U3, t2, t3, n2, n3, by omega, by omega, by omega, fun m hm => by have := low m hm; omega, fun H4 e4 k4 U4 => ?_⟩
    rw [addG_take go hgm] at U4
    repeat kaf_suf
    exact ⟨_, _, _, rfl, kk.trans k4, U4⟩
  · rintro σ H3 ⟨x8, x9, dsu, rfl, kk, U3⟩
    have e1 : gs.take (max 1 (ks4.map V.ref).length) = gs := List.take_of_length_le (by omega)
    rw [e1] at U3
    have hR3 := kk _ _ nRU hR2
    have pks3 : Paired (RowAt MU H3) ks4 gs := paired_keep pks2 fun t g r => r.keep kk
    have B3 := B2.keepY kk (fun x h => by
      rcases U2.cell h with ⟨l, e⟩ | ⟨l, e⟩
      · exact ⟨(fun _ z => by rw [e] at z; cases z), (fun _ _ _ z => by rw [e] at z; cases z)⟩
      · exact ⟨(fun _ z => by rw [e] at z; cases z), (fun _ _ _ z => by rw [e] at z; cases z)⟩) bU
    have rR : Rp Nil H3 (.ref R) (.list (gs.map dRow)) := RowsAt.rp ⟨ks4, hR3, pks3⟩
    obtain ⟨bx1, bm1, bn1, bd1, hb1⟩ := U3.ins_
    repeat kaf_suf
    refine ⟨rfl, u, MU, gs, _, rfl, U3, ?_⟩
    repeat kaf_suf
    rw [show (((gs.length : Nat) : Int).toNat) = gs.length from Int.toNat_natCast _]
    refine lc_rows U3 (Nat.le_refl _) (by omega) (fun _ => rfl) (fun _ => rfl) (fun _ => rfl) fun D H4 hD k4 rD => ?_
    rw [List.take_length] at rD
    repeat kaf_suf
    refine v_neRows rD (rR.same k4) ?_
    rw [decide_eq_true rfl]
    have B4 := B3.same k4
    obtain ⟨cx1, cm1, cn1, cd1, hc1⟩ := B4.ins_
    repeat kaf_suf
    refine ⟨rfl, b, MB, gs, _, rfl, B4, ?_⟩
    repeat kaf_suf
    rw [show (((gs.length : Nat) : Int).toNat) = gs.length from Int.toNat_natCast _]
    refine lc_rows B4 (Nat.le_refl _) (by omega) (fun _ => rfl) (fun _ => rfl) (fun _ => rfl) fun D H5 hD k5 rD => ?_
    rw [List.take_length] at rD
    repeat kaf_suf
    refine v_eqRows rD ((rR.same k4).same k5) ?_
    rw [decide_eq_true rfl]
    exact k _

theorem ok_law {c : Cn} {mg : Str → Option Value} {base : Heap} {f : Addr} {fd : FuncData} (T : Txt c mg) (F : Fun c.K "law" "law" s_law f fd) : FnOk c.P c.w c.K mg base CX0 9 f fd ["script"] (sp_law_law c.K) :=
  F.ok (k := 8) (N := N_law) sc_law (fun vs H Q E h => h.1) (fun cdv A outer s H vs Q E hr h => ⟨t_law c, by
  exact (pss_cons (ps_set (i := 1) sc_law.nd rfl (Or.inl rfl) (e_call (cal_law_deck T) hr (by decide) pass0 rfl (pa_cons (pv 0) pa_nil)))
  (pss_cons (ps_set (i := 2) sc_law.nd rfl (Or.inr rfl) (e_make0 (mak_Book T) hr (by decide) pass0 rfl))
  (pss_cons (ps_set (i := 3) sc_law.nd rfl (Or.inl rfl) (e_call (cal_law_grown T) hr (by decide) pass0 rfl (pa_cons (pv 1) (pa_cons (pv 2) (pa_cons (pe_op o_add pe_int (e_call (cal_law_draw T) hr (by decide) pass0 rfl (pa_cons (pv 1) (pa_cons pe_int pa_nil)))) pa_nil)))))
  (pss_cons (ps_if (PW.pt (pw_or (pt_cmpR o_is (pv 3) pe_non (nomark _)) (pw_or1 (pt_not (p_tru (e_call (cal_law_sound T) hr (by decide) pass0 rfl (pa_cons (pv 2) pa_nil))))))) (pss_one (ps_ret pe_bl)) pss_nil)
  (pss_cons (ps_set (i := 4) sc_law.nd rfl (Or.inl rfl) (e_make0 (mak_Book T) hr (by decide) pass0 rfl))
  (pss_cons (ps_set (i := 5) sc_law.nd rfl (Or.inr rfl) (e_call (cal_law_moved T) hr (by decide) pass0 rfl (pa_cons (pv 1) (pa_cons (pv 2) (pa_cons (pv 4) pa_nil)))))
  (pss_cons (ps_if (PW.pt (pw_or (pt_cmpR (o_ne (hu64 hr)) (pe_callB k_lenS (by rfl) T.n_len (by decide +kernel) (pa_cons (pe_callTy (k_set rfl) (by rfl) T.n_set (by decide +kernel) (pa_cons (pe_callTy (k_listV rfl) (by rfl) T.n_list (by decide +kernel) (pa_cons (pe_bm0 PySem.F.plainAttrs_dict PySem.F.slot_dict_values PySem.F.type_dict_values mt_dvals (pv 5)) pa_nil)) pa_nil)) pa_nil)) (pe_callB k_len (by rfl) T.n_len (by decide +kernel) (pa_cons (pv 3) pa_nil)) (nomark _)) (pw_or1 (pt_not (p_tru (e_call (cal_law_sound T) hr (by decide) pass0 rfl (pa_cons (pv 4) pa_nil))))))) (pss_one (ps_ret pe_bl)) pss_nil)
  (pss_cons (ps_for PassesOwn.never rfl (pi_range1 rfl T.n_range (pa_cons (pe_callB k_len (by rfl) T.n_len (by decide +kernel) (pa_cons (pv 3) pa_nil)) pa_nil)) (pg_name (i := 6) sc_law.nd rfl (Or.inl rfl))
  (pss_cons (ps_if (pt_cmpR (o_ne (hu64 hr)) (e_meth (met_Book_lefts T) hr (by decide) pass0 (pv 4) (pa_cons (pe_ix (x_ix (hu64 hr)) (pv 5) (pv 6) (fun _ _ => rfl)) pa_nil)) (pe_callB (k_sorted rfl) (by rfl) T.n_sorted (by decide +kernel) (pa_cons (pe_lc (own := [("one", 10)]) rfl sc_law.nd (pi_any (pe_ix (x_ix (hu64 hr)) (pe_ix (x_ix (hu64 hr)) (pv 3) (pv 6) (fun _ _ => rfl)) pe_int (fun _ _ => rfl))) (blkOk_by (own := [("one", 10)]) (N := N_law) (sc := defScope s_law) (by decide +kernel)) (fun _ _ _ _ _ => (pg_name (i := 10) sc_law.nd rfl (Or.inl rfl))) (fun _ _ _ _ _ => pts_nil) (fun _ _ _ _ _ => (pe_ix (x_ix (hu64 hr)) (pv 5) (pv 10) (fun _ _ => rfl)))) pa_nil)) (nomark _)) (pss_one (ps_ret pe_bl)) pss_nil)
  (pss_cons (ps_if (pt_cmpR (o_ne (hu64 hr)) (e_meth (met_Book_rights T) hr (by decide) pass0 (pv 4) (pa_cons (pe_ix (x_ix (hu64 hr)) (pv 5) (pv 6) (fun _ _ => rfl)) pa_nil)) (pe_callB (k_sorted rfl) (by rfl) T.n_sorted (by decide +kernel) (pa_cons (pe_lc (own := [("one", 10)]) rfl sc_law.nd (pi_any (pe_ix (x_ix (hu64 hr)) (pe_ix (x_ix (hu64 hr)) (pv 3) (pv 6) (fun _ _ => rfl)) pe_int (fun _ _ => rfl))) (blkOk_by (own := [("one", 10)]) (N := N_law) (sc := defScope s_law) (by decide +kernel)) (fun _ _ _ _ _ => (pg_name (i := 10) sc_law.nd rfl (Or.inl rfl))) (fun _ _ _ _ _ => pts_nil) (fun _ _ _ _ _ => (pe_ix (x_ix (hu64 hr)) (pv 5) (pv 10) (fun _ _ => rfl)))) pa_nil)) (nomark _)) (pss_one (ps_ret pe_bl)) pss_nil)
  (pss_one (ps_if (pt_cmpR (o_ne (hu64 hr)) (e_meth (met_Book_depth T) hr (by decide) pass0 (pv 4) (pa_cons (pe_ix (x_ix (hu64 hr)) (pv 5) (pv 6) (fun _ _ => rfl)) pa_nil)) (e_meth (met_Book_depth T) hr (by decide) pass0 (pv 2) (pa_cons (pv 6) pa_nil)) (nomark _)) (pss_one (ps_ret pe_bl)) pss_nil)))))
  (pss_cons (ps_set (i := 7) sc_law.nd rfl (Or.inr rfl) (e_make0 (mak_Book T) hr (by decide) pass0 rfl))
  (pss_cons (ps_for PassesOwn.never rfl (pi_any (pv 3)) (g_seq rfl (pgs_cons (pg_name (i := 8) sc_law.nd rfl (Or.inl rfl)) (pgs_cons (pg_name (i := 9) sc_law.nd rfl (Or.inl rfl)) pgs_nil)))
  (pss_one (ps_expr (e_meth (met_Book_game T) hr (by decide) pass0 (pv 7) (pa_cons (pv 8) (pa_cons (pv 9) pa_nil))))))
  (pss_cons (ps_if (pt_cmpR (o_ne (hu64 hr)) (pe_lc (own := [("g", 6)]) rfl sc_law.nd (pi_range1 rfl T.n_range (pa_cons (e_meth0 (met_Book_many T) hr (by decide) pass0 (pv 7)) pa_nil)) (blkOk_by (own := [("g", 6)]) (N := N_law) (sc := defScope s_law) (by decide +kernel)) (fun _ _ _ _ _ => (pg_name (i := 6) sc_law.nd rfl (Or.inl rfl))) (fun _ _ _ _ _ => pts_nil) (fun _ _ _ _ _ => (pe_tup (pa_cons (e_meth (met_Book_lefts T) hr (by decide) pass0 (pv 7) (pa_cons (pv 6) pa_nil)) (pa_cons (e_meth (met_Book_rights T) hr (by decide) pass0 (pv 7) (pa_cons (pv 6) pa_nil)) pa_nil))))) (pv 3) (nomark _)) (pss_one (ps_ret pe_bl)) pss_nil)
  (pss_one (ps_ret (pe_cmpR (o_eq (hu64 hr)) (pe_lc (own := [("g", 6)]) rfl sc_law.nd (pi_range1 rfl T.n_range (pa_cons (e_meth0 (met_Book_many T) hr (by decide) pass0 (pv 2)) pa_nil)) (blkOk_by (own := [("g", 6)]) (N := N_law) (sc := defScope s_law) (by decide +kernel)) (fun _ _ _ _ _ => (pg_name (i := 6) sc_law.nd rfl (Or.inl rfl))) (fun _ _ _ _ _ => pts_nil) (fun _ _ _ _ _ => (pe_tup (pa_cons (e_meth (met_Book_lefts T) hr (by decide) pass0 (pv 2) (pa_cons (pv 6) pa_nil)) (pa_cons (e_meth (met_Book_rights T) hr (by decide) pass0 (pv 2) (pa_cons (pv 6) pa_nil)) pa_nil))))) (pv 3) (nomark _))))))))))))))), p_law T h⟩)
theorem all_mk {l : PySem.W.OpenLaw} {w : World} {K : PySem.W.Frag} {h : Heap} {mg : Str → Option Value} {fa : Addr} (X : K.In h) (G : h.Ns mainGlobals mg) (hfa : mg "law" = some (.ref fa))
    {aGameError aNoGame aBook : Addr}
    {f_law_draw : Addr} {od_law_draw an_law_draw : Option Addr} {sl_law_draw : Array (Option Value)} {oc_law_draw kV_law_draw dc_law_draw pm_law_draw cd_law_draw ct_law_draw : Value}
    {f_law_deck : Addr} {od_law_deck an_law_deck : Option Addr} {sl_law_deck : Array (Option Value)} {oc_law_deck kV_law_deck dc_law_deck pm_law_deck cd_law_deck ct_law_deck : Value}
    {f_Book_need : Addr} {od_Book_need an_Book_need : Option Addr} {sl_Book_need : Array (Option Value)} {oc_Book_need kV_Book_need dc_Book_need pm_Book_need cd_Book_need ct_Book_need : Value}
    {f_Book_game : Addr} {od_Book_game an_Book_game : Option Addr} {sl_Book_game : Array (Option Value)} {oc_Book_game kV_Book_game dc_Book_game pm_Book_game cd_Book_game ct_Book_game : Value}
    {f_Book_init : Addr} {od_Book_init an_Book_init : Option Addr} {sl_Book_init : Array (Option Value)} {oc_Book_init kV_Book_init dc_Book_init pm_Book_init cd_Book_init ct_Book_init : Value}
    {f_Book_many : Addr} {od_Book_many an_Book_many : Option Addr} {sl_Book_many : Array (Option Value)} {oc_Book_many kV_Book_many dc_Book_many pm_Book_many cd_Book_many ct_Book_many : Value}
    {f_law_sound : Addr} {od_law_sound an_law_sound : Option Addr} {sl_law_sound : Array (Option Value)} {oc_law_sound kV_law_sound dc_law_sound pm_law_sound cd_law_sound ct_law_sound : Value}
    {f_law_moved : Addr} {od_law_moved an_law_moved : Option Addr} {sl_law_moved : Array (Option Value)} {oc_law_moved kV_law_moved dc_law_moved pm_law_moved cd_law_moved ct_law_moved : Value}
    {f_Book_lefts : Addr} {od_Book_lefts an_Book_lefts : Option Addr} {sl_Book_lefts : Array (Option Value)} {oc_Book_lefts kV_Book_lefts dc_Book_lefts pm_Book_lefts cd_Book_lefts ct_Book_lefts : Value}
    {f_Book_rights : Addr} {od_Book_rights an_Book_rights : Option Addr} {sl_Book_rights : Array (Option Value)} {oc_Book_rights kV_Book_rights dc_Book_rights pm_Book_rights cd_Book_rights ct_Book_rights : Value}
    {f_Book_depth : Addr} {od_Book_depth an_Book_depth : Option Addr} {sl_Book_depth : Array (Option Value)} {oc_Book_depth kV_Book_depth dc_Book_depth pm_Book_depth cd_Book_depth ct_Book_depth : Value}
    {f_law_moves : Addr} {od_law_moves an_law_moves : Option Addr} {sl_law_moves : Array (Option Value)} {oc_law_moves kV_law_moves dc_law_moves pm_law_moves cd_law_moves ct_law_moves : Value}
    {f_law_grown : Addr} {od_law_grown an_law_grown : Option Addr} {sl_law_grown : Array (Option Value)} {oc_law_grown kV_law_grown dc_law_grown pm_law_grown cd_law_grown ct_law_grown : Value}
    {f_law : Addr} {od_law an_law : Option Addr} {sl_law : Array (Option Value)} {oc_law kV_law dc_law pm_law cd_law ct_law : Value}
    (a_GameError : PySem.W.nsIn K mainGlobals "GameError" = some (some (.ref aGameError)))
    (a_NoGame : PySem.W.nsIn K mainGlobals "NoGame" = some (some (.ref aNoGame)))
    (a_Book : PySem.W.nsIn K mainGlobals "Book" = some (some (.ref aBook)))
    (pg_Book : PySem.W.plainGet K aBook Str.empty = true)
    (hd_Book : PySem.W.hasDictIn K aBook = true)
    (po_Book : PySem.W.plainOver K aBook = true)
    (sa_Book : PySem.W.findIn K (.ref aBook) "__setattr__" = some (some (.builtin "object.__setattr__")))
    (mk_Book : PySem.W.makesIn K aBook = true)
    (kc_Book : PySem.W.keepIn K (.ref aBook) = true)
    (na_Book_depths : PySem.W.findIn K (.ref aBook) "depths" = some none)
    (na_Book_moves : PySem.W.findIn K (.ref aBook) "moves" = some none)
    (na_Book_numbers : PySem.W.findIn K (.ref aBook) "numbers" = some none)
    (n_bool : PySem.W.nsIn K mainGlobals "bool" = some none)
    (n_int : PySem.W.nsIn K mainGlobals "int" = some none)
    (n_isinstance : PySem.W.nsIn K mainGlobals "isinstance" = some none)
    (n_len : PySem.W.nsIn K mainGlobals "len" = some none)
    (n_list : PySem.W.nsIn K mainGlobals "list" = some none)
    (n_max : PySem.W.nsIn K mainGlobals "max" = some none)
    (n_min : PySem.W.nsIn K mainGlobals "min" = some none)
    (n_range : PySem.W.nsIn K mainGlobals "range" = some none)
    (n_set : PySem.W.nsIn K mainGlobals "set" = some none)
    (n_sorted : PySem.W.nsIn K mainGlobals "sorted" = some none)
    (n_tuple : PySem.W.nsIn K mainGlobals "tuple" = some none)
    (a_law_draw : PySem.W.nsIn K mainGlobals "_law_draw" = some (some (.ref f_law_draw)))
    (l_law_draw : K.lookup f_law_draw = some ⟨oc_law_draw, od_law_draw, .func (PySem.W.fnOf "_law_draw" "_law_draw" (defArgs s_law_draw) (defBody s_law_draw) (defScope s_law_draw) .none kV_law_draw dc_law_draw pm_law_draw an_law_draw cd_law_draw ct_law_draw), sl_law_draw⟩)
    (c_law_draw : PySem.W.codeIn K cd_law_draw "_law_draw" = true)
    (k_law_draw : PySem.W.keepIn K (.ref f_law_draw) = true)
    (a_law_deck : PySem.W.nsIn K mainGlobals "_law_deck" = some (some (.ref f_law_deck)))
    (l_law_deck : K.lookup f_law_deck = some ⟨oc_law_deck, od_law_deck, .func (PySem.W.fnOf "_law_deck" "_law_deck" (defArgs s_law_deck) (defBody s_law_deck) (defScope s_law_deck) .none kV_law_deck dc_law_deck pm_law_deck an_law_deck cd_law_deck ct_law_deck), sl_law_deck⟩)
    (c_law_deck : PySem.W.codeIn K cd_law_deck "_law_deck" = true)
    (k_law_deck : PySem.W.keepIn K (.ref f_law_deck) = true)
    (a_Book_need : PySem.W.findIn K (.ref aBook) "need" = some (some (.ref f_Book_need)))
    (i_Book_need : PySem.W.isFn K (.ref f_Book_need) = true)
    (l_Book_need : K.lookup f_Book_need = some ⟨oc_Book_need, od_Book_need, .func (PySem.W.fnOf "need" "Book.need" (defArgs s_Book_need) (defBody s_Book_need) (defScope s_Book_need) .none kV_Book_need dc_Book_need pm_Book_need an_Book_need cd_Book_need ct_Book_need), sl_Book_need⟩)
    (c_Book_need : PySem.W.codeIn K cd_Book_need "Book.need" = true)
    (k_Book_need : PySem.W.keepIn K (.ref f_Book_need) = true)
    (a_Book_game : PySem.W.findIn K (.ref aBook) "game" = some (some (.ref f_Book_game)))
    (i_Book_game : PySem.W.isFn K (.ref f_Book_game) = true)
    (l_Book_game : K.lookup f_Book_game = some ⟨oc_Book_game, od_Book_game, .func (PySem.W.fnOf "game" "Book.game" (defArgs s_Book_game) (defBody s_Book_game) (defScope s_Book_game) .none kV_Book_game dc_Book_game pm_Book_game an_Book_game cd_Book_game ct_Book_game), sl_Book_game⟩)
    (c_Book_game : PySem.W.codeIn K cd_Book_game "Book.game" = true)
    (k_Book_game : PySem.W.keepIn K (.ref f_Book_game) = true)
    (a_Book_init : PySem.W.findIn K (.ref aBook) "__init__" = some (some (.ref f_Book_init)))
    (i_Book_init : PySem.W.isFn K (.ref f_Book_init) = true)
    (l_Book_init : K.lookup f_Book_init = some ⟨oc_Book_init, od_Book_init, .func (PySem.W.fnOf "__init__" "Book.__init__" (defArgs s_Book_init) (defBody s_Book_init) (defScope s_Book_init) .none kV_Book_init dc_Book_init pm_Book_init an_Book_init cd_Book_init ct_Book_init), sl_Book_init⟩)
    (c_Book_init : PySem.W.codeIn K cd_Book_init "Book.__init__" = true)
    (k_Book_init : PySem.W.keepIn K (.ref f_Book_init) = true)
    (a_Book_many : PySem.W.findIn K (.ref aBook) "many" = some (some (.ref f_Book_many)))
    (i_Book_many : PySem.W.isFn K (.ref f_Book_many) = true)
    (l_Book_many : K.lookup f_Book_many = some ⟨oc_Book_many, od_Book_many, .func (PySem.W.fnOf "many" "Book.many" (defArgs s_Book_many) (defBody s_Book_many) (defScope s_Book_many) .none kV_Book_many dc_Book_many pm_Book_many an_Book_many cd_Book_many ct_Book_many), sl_Book_many⟩)
    (c_Book_many : PySem.W.codeIn K cd_Book_many "Book.many" = true)
    (k_Book_many : PySem.W.keepIn K (.ref f_Book_many) = true)
    (a_law_sound : PySem.W.nsIn K mainGlobals "_law_sound" = some (some (.ref f_law_sound)))
    (l_law_sound : K.lookup f_law_sound = some ⟨oc_law_sound, od_law_sound, .func (PySem.W.fnOf "_law_sound" "_law_sound" (defArgs s_law_sound) (defBody s_law_sound) (defScope s_law_sound) .none kV_law_sound dc_law_sound pm_law_sound an_law_sound cd_law_sound ct_law_sound), sl_law_sound⟩)
    (c_law_sound : PySem.W.codeIn K cd_law_sound "_law_sound" = true)
    (k_law_sound : PySem.W.keepIn K (.ref f_law_sound) = true)
    (a_law_moved : PySem.W.nsIn K mainGlobals "_law_moved" = some (some (.ref f_law_moved)))
    (l_law_moved : K.lookup f_law_moved = some ⟨oc_law_moved, od_law_moved, .func (PySem.W.fnOf "_law_moved" "_law_moved" (defArgs s_law_moved) (defBody s_law_moved) (defScope s_law_moved) .none kV_law_moved dc_law_moved pm_law_moved an_law_moved cd_law_moved ct_law_moved), sl_law_moved⟩)
    (c_law_moved : PySem.W.codeIn K cd_law_moved "_law_moved" = true)
    (k_law_moved : PySem.W.keepIn K (.ref f_law_moved) = true)
    (a_Book_lefts : PySem.W.findIn K (.ref aBook) "lefts" = some (some (.ref f_Book_lefts)))
    (i_Book_lefts : PySem.W.isFn K (.ref f_Book_lefts) = true)
    (l_Book_lefts : K.lookup f_Book_lefts = some ⟨oc_Book_lefts, od_Book_lefts, .func (PySem.W.fnOf "lefts" "Book.lefts" (defArgs s_Book_lefts) (defBody s_Book_lefts) (defScope s_Book_lefts) .none kV_Book_lefts dc_Book_lefts pm_Book_lefts an_Book_lefts cd_Book_lefts ct_Book_lefts), sl_Book_lefts⟩)
    (c_Book_lefts : PySem.W.codeIn K cd_Book_lefts "Book.lefts" = true)
    (k_Book_lefts : PySem.W.keepIn K (.ref f_Book_lefts) = true)
    (a_Book_rights : PySem.W.findIn K (.ref aBook) "rights" = some (some (.ref f_Book_rights)))
    (i_Book_rights : PySem.W.isFn K (.ref f_Book_rights) = true)
    (l_Book_rights : K.lookup f_Book_rights = some ⟨oc_Book_rights, od_Book_rights, .func (PySem.W.fnOf "rights" "Book.rights" (defArgs s_Book_rights) (defBody s_Book_rights) (defScope s_Book_rights) .none kV_Book_rights dc_Book_rights pm_Book_rights an_Book_rights cd_Book_rights ct_Book_rights), sl_Book_rights⟩)
    (c_Book_rights : PySem.W.codeIn K cd_Book_rights "Book.rights" = true)
    (k_Book_rights : PySem.W.keepIn K (.ref f_Book_rights) = true)
    (a_Book_depth : PySem.W.findIn K (.ref aBook) "depth" = some (some (.ref f_Book_depth)))
    (i_Book_depth : PySem.W.isFn K (.ref f_Book_depth) = true)
    (l_Book_depth : K.lookup f_Book_depth = some ⟨oc_Book_depth, od_Book_depth, .func (PySem.W.fnOf "depth" "Book.depth" (defArgs s_Book_depth) (defBody s_Book_depth) (defScope s_Book_depth) .none kV_Book_depth dc_Book_depth pm_Book_depth an_Book_depth cd_Book_depth ct_Book_depth), sl_Book_depth⟩)
    (c_Book_depth : PySem.W.codeIn K cd_Book_depth "Book.depth" = true)
    (k_Book_depth : PySem.W.keepIn K (.ref f_Book_depth) = true)
    (a_law_moves : PySem.W.nsIn K mainGlobals "_law_moves" = some (some (.ref f_law_moves)))
    (l_law_moves : K.lookup f_law_moves = some ⟨oc_law_moves, od_law_moves, .func (PySem.W.fnOf "_law_moves" "_law_moves" (defArgs s_law_moves) (defBody s_law_moves) (defScope s_law_moves) .none kV_law_moves dc_law_moves pm_law_moves an_law_moves cd_law_moves ct_law_moves), sl_law_moves⟩)
    (c_law_moves : PySem.W.codeIn K cd_law_moves "_law_moves" = true)
    (k_law_moves : PySem.W.keepIn K (.ref f_law_moves) = true)
    (a_law_grown : PySem.W.nsIn K mainGlobals "_law_grown" = some (some (.ref f_law_grown)))
    (l_law_grown : K.lookup f_law_grown = some ⟨oc_law_grown, od_law_grown, .func (PySem.W.fnOf "_law_grown" "_law_grown" (defArgs s_law_grown) (defBody s_law_grown) (defScope s_law_grown) .none kV_law_grown dc_law_grown pm_law_grown an_law_grown cd_law_grown ct_law_grown), sl_law_grown⟩)
    (c_law_grown : PySem.W.codeIn K cd_law_grown "_law_grown" = true)
    (k_law_grown : PySem.W.keepIn K (.ref f_law_grown) = true)
    (a_law : PySem.W.nsIn K mainGlobals "law" = some (some (.ref f_law)))
    (l_law : K.lookup f_law = some ⟨oc_law, od_law, .func (PySem.W.fnOf "law" "law" (defArgs s_law) (defBody s_law) (defScope s_law) .none kV_law dc_law pm_law an_law cd_law ct_law), sl_law⟩)
    (c_law : PySem.W.codeIn K cd_law "law" = true)
    (k_law : PySem.W.keepIn K (.ref f_law) = true)
    : ∃ fd : FuncData, (∀ (s : Shared) (v : Value), BindsTo s fd ⟨[v], []⟩ [("script", v)]) ∧ ∀ base : Heap, K.In base → base.Ns mainGlobals mg → FnOk l.prog w K mg base CX0 9 fa fd ["script"] (sp_law_law K) := by
  have e := hfa.symm.trans (PySem.W.mg_of X G a_law)
  cases e
  let c : Cn := { P := l.prog, w := w, K := K, cGameError := aGameError, cNoGame := aNoGame, cBook := aBook }
  have T : Txt c mg := { n_bool := PySem.W.mg_none_of X G n_bool, n_int := PySem.W.mg_none_of X G n_int, n_isinstance := PySem.W.mg_none_of X G n_isinstance, n_len := PySem.W.mg_none_of X G n_len, n_list := PySem.W.mg_none_of X G n_list, n_max := PySem.W.mg_none_of X G n_max, n_min := PySem.W.mg_none_of X G n_min, n_range := PySem.W.mg_none_of X G n_range, n_set := PySem.W.mg_none_of X G n_set, n_sorted := PySem.W.mg_none_of X G n_sorted, n_tuple := PySem.W.mg_none_of X G n_tuple, g_GameError := PySem.W.mg_of X G a_GameError, g_NoGame := PySem.W.mg_of X G a_NoGame, g_Book := PySem.W.mg_of X G a_Book, cl_Book := ⟨pg_Book, hd_Book, po_Book, sa_Book⟩, na_Book_depths := na_Book_depths, na_Book_moves := na_Book_moves, na_Book_numbers := na_Book_numbers, F_law_draw := ⟨_, _, fun_mk (st := s_law_draw) l_law_draw c_law_draw k_law_draw, PySem.W.mg_of X G a_law_draw, ((fun_mk (st := s_law_draw) l_law_draw c_law_draw k_law_draw).binds (ps := ["deck", "many"]) fun _ _ _ _ _ _ us hl => match us, hl with | [_, _], _ => rfl)⟩, F_law_deck := ⟨_, _, fun_mk (st := s_law_deck) l_law_deck c_law_deck k_law_deck, PySem.W.mg_of X G a_law_deck, ((fun_mk (st := s_law_deck) l_law_deck c_law_deck k_law_deck).binds (ps := ["script"]) fun _ _ _ _ _ _ us hl => match us, hl with | [_], _ => rfl)⟩, F_Book_need := ⟨_, _, fun_mk (st := s_Book_need) l_Book_need c_Book_need k_Book_need, ⟨a_Book_need, i_Book_need, k_Book_need⟩, ((fun_mk (st := s_Book_need) l_Book_need c_Book_need k_Book_need).binds (ps := ["self", "g"]) fun _ _ _ _ _ _ us hl => match us, hl with | [_, _], _ => rfl)⟩, F_Book_game := ⟨_, _, fun_mk (st := s_Book_game) l_Book_game c_Book_game k_Book_game, ⟨a_Book_game, i_Book_game, k_Book_game⟩, ((fun_mk (st := s_Book_game) l_Book_game c_Book_game k_Book_game).binds (ps := ["self", "lefts", "rights"]) fun _ _ _ _ _ _ us hl => match us, hl with | [_, _, _], _ => rfl)⟩, F_Book_init := ⟨_, _, fun_mk (st := s_Book_init) l_Book_init c_Book_init k_Book_init, ⟨mk_Book, a_Book_init, i_Book_init, kc_Book⟩, ((fun_mk (st := s_Book_init) l_Book_init c_Book_init k_Book_init).binds (ps := ["self"]) fun _ _ _ _ _ _ us hl => match us, hl with | [_], _ => rfl)⟩, F_Book_many := ⟨_, _, fun_mk (st := s_Book_many) l_Book_many c_Book_many k_Book_many, ⟨a_Book_many, i_Book_many, k_Book_many⟩, ((fun_mk (st := s_Book_many) l_Book_many c_Book_many k_Book_many).binds (ps := ["self"]) fun _ _ _ _ _ _ us hl => match us, hl with | [_], _ => rfl)⟩, F_law_sound := ⟨_, _, fun_mk (st := s_law_sound) l_law_sound c_law_sound k_law_sound, PySem.W.mg_of X G a_law_sound, ((fun_mk (st := s_law_sound) l_law_sound c_law_sound k_law_sound).binds (ps := ["book"]) fun _ _ _ _ _ _ us hl => match us, hl with | [_], _ => rfl)⟩, F_law_moved := ⟨_, _, fun_mk (st := s_law_moved) l_law_moved c_law_moved k_law_moved, PySem.W.mg_of X G a_law_moved, ((fun_mk (st := s_law_moved) l_law_moved c_law_moved k_law_moved).binds (ps := ["deck", "book", "second"]) fun _ _ _ _ _ _ us hl => match us, hl with | [_, _, _], _ => rfl)⟩, F_Book_lefts := ⟨_, _, fun_mk (st := s_Book_lefts) l_Book_lefts c_Book_lefts k_Book_lefts, ⟨a_Book_lefts, i_Book_lefts, k_Book_lefts⟩, ((fun_mk (st := s_Book_lefts) l_Book_lefts c_Book_lefts k_Book_lefts).binds (ps := ["self", "g"]) fun _ _ _ _ _ _ us hl => match us, hl with | [_, _], _ => rfl)⟩, F_Book_rights := ⟨_, _, fun_mk (st := s_Book_rights) l_Book_rights c_Book_rights k_Book_rights, ⟨a_Book_rights, i_Book_rights, k_Book_rights⟩, ((fun_mk (st := s_Book_rights) l_Book_rights c_Book_rights k_Book_rights).binds (ps := ["self", "g"]) fun _ _ _ _ _ _ us hl => match us, hl with | [_, _], _ => rfl)⟩, F_Book_depth := ⟨_, _, fun_mk (st := s_Book_depth) l_Book_depth c_Book_depth k_Book_depth, ⟨a_Book_depth, i_Book_depth, k_Book_depth⟩, ((fun_mk (st := s_Book_depth) l_Book_depth c_Book_depth k_Book_depth).binds (ps := ["self", "g"]) fun _ _ _ _ _ _ us hl => match us, hl with | [_, _], _ => rfl)⟩, F_law_moves := ⟨_, _, fun_mk (st := s_law_moves) l_law_moves c_law_moves k_law_moves, PySem.W.mg_of X G a_law_moves, ((fun_mk (st := s_law_moves) l_law_moves c_law_moves k_law_moves).binds (ps := ["deck", "many"]) fun _ _ _ _ _ _ us hl => match us, hl with | [_, _], _ => rfl)⟩, F_law_grown := ⟨_, _, fun_mk (st := s_law_grown) l_law_grown c_law_grown k_law_grown, PySem.W.mg_of X G a_law_grown, ((fun_mk (st := s_law_grown) l_law_grown c_law_grown k_law_grown).binds (ps := ["deck", "book", "many"]) fun _ _ _ _ _ _ us hl => match us, hl with | [_, _, _], _ => rfl)⟩ }
  exact ⟨_, fun s v => .of_eq rfl, fun base _ _ => ok_law T (fun_mk (st := s_law) l_law c_law k_law)⟩
theorem walk {l : PySem.W.OpenLaw} {q : Program} {loose : List Str} {XP : (Str → Option Value) → Heap → Prop} {YP : World → Heap → Prop} {d : DefRec} {K : Params → PySem.W.Frag} (hn : l.most = some 63) (hdf : d.params.defaults = [])
    (hY : ∀ (w : World) (h : Heap), YP w h → (K w.params).In h)
    (F : ∀ (w : World) (mg : Str → Option Value) (fa : Addr) (h : Heap), (K w.params).In h → h.Ns mainGlobals mg → mg d.name = some (.ref fa) →
      ∃ fd : FuncData, (∀ (s : Shared) (u : Value), BindsTo s fd ⟨[u], []⟩ [("script", u)]) ∧ ∀ base : Heap, (K w.params).In base → base.Ns mainGlobals mg → FnOk l.prog w (K w.params) mg base CX0 9 fa fd ["script"] (sp_law_law (K w.params))) :
    PySem.W.WalkO q loose XP YP l.row.toRowW d [] (fun f vs => PySem.call f vs) :=
  L2.walk_of (n := 63) (k := 9) (x := "script") (CX := fun _ => CX0) (sp := fun w => sp_law_law (K w.params)) hn (by decide) hdf ⟨rfl, by decide, by decide⟩ hY F (fun _ H a ns hl _ hS => ⟨rfl, a, ns, rfl, hS, hl, fun _ => rfl⟩) fun _ _ _ _ _ z => z
end Hm

open PySem PySem.W PyProof.Rows in
set_option maxRecDepth 100000 in
set_option maxHeartbeats 0 in
theorem PySem.Challenge.cw_hotmoves_k05_whole_books_beside_holds : PySem.Challenge.rw_hotmoves_k05_whole_books_beside.Holds := by
  w_on; o_law; k_head; (case hw => w_witness2)
  k_fill
  refine Hm.walk (l := PySem.Challenge.rw_hotmoves_k05_whole_books_beside) rfl rfl (fun w h Y => PySem.W.kIn_of Y) ?F
  case F =>
    intro w mg fa h KX G hmg
    refine' Hm.all_mk KX G hmg ?a_GameError ?a_NoGame ?a_Book ?pg_Book ?hd_Book ?po_Book ?sa_Book ?mk_Book ?kc_Book ?na_Book_depths ?na_Book_moves ?na_Book_numbers ?n_bool ?n_int ?n_isinstance ?n_len ?n_list ?n_max ?n_min ?n_range ?n_set ?n_sorted ?n_tuple ?a_law_draw ?l_law_draw ?c_law_draw ?k_law_draw ?a_law_deck ?l_law_deck ?c_law_deck ?k_law_deck ?a_Book_need ?i_Book_need ?l_Book_need ?c_Book_need ?k_Book_need ?a_Book_game ?i_Book_game ?l_Book_game ?c_Book_game ?k_Book_game ?a_Book_init ?i_Book_init ?l_Book_init ?c_Book_init ?k_Book_init ?a_Book_many ?i_Book_many ?l_Book_many ?c_Book_many ?k_Book_many ?a_law_sound ?l_law_sound ?c_law_sound ?k_law_sound ?a_law_moved ?l_law_moved ?c_law_moved ?k_law_moved ?a_Book_lefts ?i_Book_lefts ?l_Book_lefts ?c_Book_lefts ?k_Book_lefts ?a_Book_rights ?i_Book_rights ?l_Book_rights ?c_Book_rights ?k_Book_rights ?a_Book_depth ?i_Book_depth ?l_Book_depth ?c_Book_depth ?k_Book_depth ?a_law_moves ?l_law_moves ?c_law_moves ?k_law_moves ?a_law_grown ?l_law_grown ?c_law_grown ?k_law_grown ?a_law ?l_law ?c_law ?k_law
    (case a_GameError => k_is)
    (case a_NoGame => k_is)
    (case a_Book => k_is)
    (case pg_Book => k_is)
    (case hd_Book => k_is)
    (case po_Book => k_is)
    (case sa_Book => k_is)
    (case mk_Book => k_is)
    (case kc_Book => k_is)
    (case na_Book_depths => k_is)
    (case na_Book_moves => k_is)
    (case na_Book_numbers => k_is)
    (case n_bool => k_is)
    (case n_int => k_is)
    (case n_isinstance => k_is)
    (case n_len => k_is)
    (case n_list => k_is)
    (case n_max => k_is)
    (case n_min => k_is)
    (case n_range => k_is)
    (case n_set => k_is)
    (case n_sorted => k_is)
    (case n_tuple => k_is)
    (case a_law_draw => k_is)
    (case l_law_draw => k_is)
    (case c_law_draw => k_is)
    (case k_law_draw => k_is)
    (case a_law_deck => k_is)
    (case l_law_deck => k_is)
    (case c_law_deck => k_is)
    (case k_law_deck => k_is)
    (case a_Book_need => k_is)
    (case i_Book_need => k_is)
    (case l_Book_need => k_is)
    (case c_Book_need => k_is)
    (case k_Book_need => k_is)
    (case a_Book_game => k_is)
    (case i_Book_game => k_is)
    (case l_Book_game => k_is)
    (case c_Book_game => k_is)
    (case k_Book_game => k_is)
    (case a_Book_init => k_is)
    (case i_Book_init => k_is)
    (case l_Book_init => k_is)
    (case c_Book_init => k_is)
    (case k_Book_init => k_is)
    (case a_Book_many => k_is)
    (case i_Book_many => k_is)
    (case l_Book_many => k_is)
    (case c_Book_many => k_is)
    (case k_Book_many => k_is)
    (case a_law_sound => k_is)
    (case l_law_sound => k_is)
    (case c_law_sound => k_is)
    (case k_law_sound => k_is)
    (case a_law_moved => k_is)
    (case l_law_moved => k_is)
    (case c_law_moved => k_is)
    (case k_law_moved => k_is)
    (case a_Book_lefts => k_is)
    (case i_Book_lefts => k_is)
    (case l_Book_lefts => k_is)
    (case c_Book_lefts => k_is)
    (case k_Book_lefts => k_is)
    (case a_Book_rights => k_is)
    (case i_Book_rights => k_is)
    (case l_Book_rights => k_is)
    (case c_Book_rights => k_is)
    (case k_Book_rights => k_is)
    (case a_Book_depth => k_is)
    (case i_Book_depth => k_is)
    (case l_Book_depth => k_is)
    (case c_Book_depth => k_is)
    (case k_Book_depth => k_is)
    (case a_law_moves => k_is)
    (case l_law_moves => k_is)
    (case c_law_moves => k_is)
    (case k_law_moves => k_is)
    (case a_law_grown => k_is)
    (case l_law_grown => k_is)
    (case c_law_grown => k_is)
    (case k_law_grown => k_is)
    (case a_law => k_is)
    (case l_law => k_is)
    (case c_law => k_is)
    (case k_law => k_is)
