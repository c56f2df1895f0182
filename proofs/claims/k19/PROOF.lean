import PyProof.Rows.All
import Wide.All
import OpenK.AllK
import Wide.FinOn
import HandS.ForMost
import HandS.ForExc
import HandS.Strs
import HandS.SetFor
import HandS.SortInts
import HandS.Deep
import HandS.Style
import HandS.Conv
import HandS.NoneIn
import HandS.IsInst
import HandS.Wide
import HandS.Codes
import HandS.Walk
import HandS.Zip
import HandS.StrMore
import HandS.RevRange
import HandS.Rev
import HandS.TupAny
import HandS.TupLen
import HandS.Steps
import HandS.Remove
import HandS.CallSlots
import HandS.ExcIs
import HandS.ExcValue
import KE.KDictDisplayH
import KE.KeyNested
import HandS.RaiseMore
import HandS.SortRule
import HandS.HotCalls
import HandS.ExcInitHot
import PySem.Challenge.RW_hotmoves_k19_plain_or_not
set_option Elab.async false
set_option linter.all false
set_option maxRecDepth 100000
set_option maxHeartbeats 4000000
/-! F1: set(list of ints); sorted of a set of any size. -/
namespace Hm
open PySem PySem.Spec PyProof.Rows L2

/-- a set as it is made -/
abbrev emptySet (w : World) : Obj := { cls := .type "set", dict := none, data := .set #[] 0 (.fresh 0 0 (!w.params.followText "set-order")) }

section
variable {P : Program} {w : World} {A : Around} {E : Value → Shared → Prop} {s : Shared}

set_option maxHeartbeats 8000000 in
theorem set_of_list {l : Addr} {xs : Array Value} (ks : List Int) {Q : Value → Shared → Prop} (calm : A.handled = none) (isL : s.heap.IsList l xs) (are : IntsAre xs.toList ks) (few : ks.length + 1 < scanBound)
    (fin : ∀ (hp : Heap) (tk n : Nat), SetR w hp s.heap.objs.size (fun j => decide (j ∈ ks)) n → n ≤ ks.length → (∀ b o, s.heap.get? b = some o → hp.get? b = some o) → Q (.ref s.heap.objs.size) { s with heap := hp, toks := tk }) :
    wpAny (model P w) A (call (.type "set") [.ref l]) Q E s := by
  have sz : xs.size = ks.length := (Array.length_toList (xs := xs)).symm.trans (IntsAre.length are)
  have made := F.called_set.made
  have sub := F.called_set.sub
  obtain ⟨c, tl, mro⟩ := F.called_set.mro
  refine wpAny_call (codeAny_of_tree ?_)
  show wpAny _ _ (callAny (.type "set") _) _ _ _
  refine wpAny_pure ⟨Code.quiet_builtin _ (by decide +kernel), codeAny_builtin F.entry_type_call ?_⟩
  rw [Around.under_plain (weight_type_call_type "set" [.ref l] []) rfl]
  have f1 := F.called_set.notType
  have f2 := F.called_set.canCreate
  have f3 := F.typeCall_set_1 (.ref l)
  repeat (any_goals (first | assumption | wp_step))
  refine codeAny_mono (code_set_led1 (.ref l) (E := E) (Q₁ := fun v t => v = .ref s.heap.objs.size ∧ t = { s with heap := s.heap.push (emptySet w) }) ⟨rfl, rfl⟩) fun r t hr => ?_
  cases r with
  | error e => exact hr
  | ok fl =>
    cases fl with
    | next => exact hr.elim
    | brk => exact hr.elim
    | cont => exact hr.elim
    | ret v =>
      obtain ⟨rfl, rfl⟩ := hr
      have at0 : (s.heap.push (emptySet w)).get? s.heap.objs.size = some (emptySet w) := Heap.get?_push_size _ rfl
      have ty0 : Shared.TypeIs { s with heap := s.heap.push (emptySet w) } (.ref s.heap.objs.size) "set" := ⟨_, at0, rfl⟩
      have i1 := F.called_set.init.lookup
      have i2 := F.called_set.init.bind (.ref s.heap.objs.size)
      repeat (any_goals (first | assumption | wp_step))
      refine codeAny_mono (codeAny_call_builtin (R := wants (fun r t => r = .none ∧ ∃ hp tk n, t = { s with heap := hp, toks := tk } ∧ SetR w hp s.heap.objs.size (fun j => decide (j ∈ ks)) n ∧ n ≤ ks.length ∧ (∀ b o, s.heap.get? b = some o → hp.get? b = some o)) E)
        F.called_set.init.plain F.entry_set_init (check_set_init_1 ty0 ?_)) fun r t hr => ?_
      · obtain ⟨⟨oc, od, odt, osl⟩, got, e1, n0, e2⟩ := isL
        simp only at e1 e2
        subst e1 e2
        have got1 : (s.heap.push (emptySet w)).get? l = some { cls := .type "list", dict := od, data := .seq xs n0, slots := osl } := Heap.get?_push_of_some _ got
        have isL1 : (s.heap.push (emptySet w)).IsList l xs := ⟨_, got1, rfl, n0, rfl⟩
        have t1 := F.sub_list_set
        have t2 := F.sub_list_frozenset
        have t3 : (Value.type "list" == Value.type "dict") = false := by decide
        unfold Builtin.«set.__init__» noKeywords Builtin.Frozenset.updateFrom
        generalize eI : pyIter = I
        wp_walk
        subst eI
        refine wpAny_pyIter_list isL1 (wpAny_bind (wpAny_runValue ?_))
        have lt : l < s.heap.objs.size := Heap.lt_size got
        have calm3 : A.in1.in1.in1.handled = none := by simp [calm]
        have sz1 : (s.heap.push (emptySet w)).objs.size = s.heap.objs.size + 1 := Heap.size_push ..
        have neI : l ≠ (s.heap.push (emptySet w)).objs.size := by rw [sz1]; exact Nat.ne_of_lt (Nat.lt_succ_of_lt lt)
        have notS : s.heap.objs.size ∉ [(s.heap.push (emptySet w)).objs.size, l] := by
          rw [sz1]; intro z; simp only [List.mem_cons, List.not_mem_nil, or_false] at z
          rcases z with z | z
          · exact Nat.ne_of_lt (Nat.lt_succ_self _) z
          · exact Nat.ne_of_gt lt z
        have each : ∀ (i : Nat) (v : Value), xs[i]? = some v → ∃ k t, ks[i]? = some k ∧ v = .int k t := fun i v hv => by
          have hi : i < ks.length := by rw [← sz]; exact (Array.getElem?_eq_some_iff.mp hv).1
          obtain ⟨t, e⟩ := PyProof.Rows.IntsAre.int_at are i v (by rw [Array.getElem?_toList]; exact hv)
          exact ⟨ks[i], t, List.getElem?_eq_getElem hi, by rw [e, List.getD_eq_getElem?_getD, List.getElem?_eq_getElem hi]; rfl⟩
        refine set_update_ints ((Walks.list calm3 _ l neI xs).toS) s.heap.objs.size notS ks sz few each (xs.size - 0) 0 _ (by omega) (Nat.zero_le _)
          ⟨⟨_, Heap.get?_push_size _ rfl, rfl, rfl⟩, (isL1.push _)⟩ ?start ?done
        case start =>
          have g : ((s.heap.push (emptySet w)).push { cls := .type "list_iterator", data := .fields #[.ref l, .int 0 0] }).get? s.heap.objs.size = some (emptySet w) := Heap.get?_push_of_some _ at0
          exact ⟨0, Nat.le_refl 0, setR_new_at g⟩
        case done =>
          rintro ⟨hp, gs, dr, tk, os⟩ n mv nle R
          cases (show gs = s.gens from mv.gens)
          cases (show dr = s.drawn from mv.drawn)
          cases (show os = s.os from mv.os)
          show wpAny _ _ _ _ _ _
          refine wpAny_pure ?_
          show wpAny _ _ (ret Value.none) _ _ _
          rw [sz] at nle
          refine wpAny_pure ⟨rfl, hp, tk, n, rfl, R, nle, fun b o e => ?_⟩
          have b0 : b < s.heap.objs.size := Heap.lt_size e
          refine mv.heap b o (fun z => ?_) (Heap.get?_push_of_some _ (Heap.get?_push_of_some _ e))
          simp only [List.mem_cons, List.not_mem_nil, or_false] at z
          rw [sz1] at z
          rcases z with z | z
          · exact Nat.ne_of_lt b0 z
          · exact Nat.ne_of_lt (Nat.lt_succ_of_lt b0) z
      · cases r with
        | error e => exact hr
        | ok fl =>
          cases fl with
          | next => exact hr.elim
          | brk => exact hr.elim
          | cont => exact hr.elim
          | ret v =>
            obtain ⟨rfl, hp, tk, n, rfl, R, nle, keep⟩ := hr
            repeat (any_goals (first | assumption | wp_step))
            exact fin _ _ _ R nle keep

/-- sorted(s) of a set of ints of any size -/
theorem sorted_of_set {a : Addr} {S : Int → Bool} {n : Nat} {Q : Value → Shared → Prop} (R : SetR w s.heap a S n) (calm : A.handled = none)
    (fin : ∀ t p (out : Array Value) (c : Nat) (ns : List Int), (∀ b o, s.heap.get? b = some o → t.heap.get? b = some o) → t.gens = s.gens → t.os = s.os → s.heap.objs.size ≤ p →
      t.heap.get? p = some (seqObj "list" out c) → IntsAre out.toList ns → ns.Pairwise (· < ·) → (∀ k, k ∈ ns ↔ S k = true) → ns.length = n → Q (.ref p) t) :
    wpAny (model P w) A (call (.builtin "sorted") [.ref a]) Q E s := by
  obtain ⟨o, es, ep, t, ho, hex, hd, good, nd, mem, few, fits, num, ris, led⟩ := R
  refine Calls.call_function_entry kind_sorted plain_sorted entry_sorted (args_sorted1 _) ?_
  unfold Builtin.«sorted»
  refine wpAny_bind (m := checkCount "sorted" 1 1 _) (wpAny_pure ?_)
  refine wpAny_bind (collect_set (A := A.in1) calm ⟨o, ho, hex.1, hd⟩ fits few ris led fun s1 vs k1 big g1 o1 pm => ?_)
  have len : vs.length = n := by rw [pm.length_eq, List.length_map, Array.length_toList]; exact num
  have areI : IntsAre vs (vs.map Builtin.Re.reRawOf) := ints_of vs fun v hv => by
    obtain ⟨e, he, q⟩ := List.mem_map.mp (pm.mem_iff.mp hv)
    obtain ⟨k, tk, h1, _⟩ := good e he
    exact ⟨k, tk, q ▸ h1⟩
  have pk : (vs.map Builtin.Re.reRawOf).Perm (es.toList.map keyOf) := by
    have q := pm.map Builtin.Re.reRawOf
    rw [List.map_map] at q
    exact q
  have line : vs.length ≤ sizeLine := by
    rw [len, sizeLine_eq]; have : scanBound = 4096 := rfl; omega
  refine wpAny_bind (wpAny_newList ?_ line)
  have at1 : (s1.heap.push (seqObj "list" vs.toArray 0)).get? s1.heap.objs.size = some (seqObj "list" vs.toArray 0) := Heap.get?_push_size _ rfl
  refine wpAny_bind (wpAny_holding (wpAny_call_entry slot_list_sort ⟨_, at1, rfl⟩ entry_list_sort
    (SrtO.list_sort_ord SrtO.swo_int at1 line (fun h2 => SrtO.ints_sortable areI h2) fun out h1 h2 => ⟨_, rfl, ?_⟩) (args_list_sort _)))
  obtain ⟨j1, j2, j3⟩ := SrtO.ints_out areI h1 h2
  obtain ⟨c, hc⟩ := sortedHeap_at (vs := vs) (out := out.toArray) at1
  have pn : (out.map SrtO.iv).Perm (es.toList.map keyOf) := j2.trans pk
  refine wpAny_pure ⟨_, rfl, fin _ s1.heap.objs.size out.toArray c (out.map SrtO.iv) (fun b u e => ?_) g1 o1 big hc (by simpa using j1) (lt_of_le_nodup _ j3 (pn.nodup_iff.mpr nd)) (fun k => by rw [pn.mem_iff, ← mem k]) ?_⟩
  · have q := k1 b u e
    have lt := Heap.lt_size q
    show (sortedHeap (s1.heap.push (seqObj "list" vs.toArray 0)) s1.heap.objs.size vs out.toArray).get? b = some u
    rw [sortedHeap_old (Nat.ne_of_lt lt) (by rw [size_push']; exact Nat.lt_succ_of_lt lt)]
    exact Heap.get?_push_of_some _ q
  · rw [pn.length_eq, List.length_map, Array.length_toList]; exact num
end

section
variable {X : Cx}
/-- set(xs), xs a list of ints -/
def uSetI (K : PySem.W.Frag) (w : World) : List V → Hp → VK → Prop := fun xs H Q => ∃ (l : Addr) (ns : List Int), xs = [.ref l] ∧ SqL K H l (ns.map V.int) ∧ ns.length ≤ 4000 ∧
  ∀ (a : Addr) (n : Nat), H a = none → n ≤ ns.length → Q (.ref a) (upd H a (SetO w a (fun j => decide (j ∈ ns)) n))
theorem cu_setI (hc : X.calm = true) : CallR X (.type "set") (uSetI X.K X.w) := by
  intro pins s σ H xs us Q I r h
  obtain ⟨l, ns, rfl, hl, few, q⟩ := h
  rw [Vals.ref1 r]
  obtain ⟨its, rv, pl, hz⟩ := I.list hl
  have hs : scanBound = 4096 := rfl
  refine set_of_list ns (I.ok.hd hc) pl.isList (by simpa using rv.ints) (by omega) fun hp tk n R nle keep => ?_
  exact ⟨.ref _, upd H s.heap.objs.size (SetO X.w s.heap.objs.size (fun j => decide (j ∈ ns)) n), I.laid (t' := tk) keep (Nat.le_refl _) (setO_new R), rfl, q _ n (I.hok.fresh (Nat.le_refl _)) nle⟩
/-- sorted(s), s a set of ints -/
def uSortSet (w : World) : List V → Hp → VK → Prop := fun vs H Q => ∃ (a : Addr) (S : Int → Bool) (n : Nat), vs = [V.ref a] ∧ H a = some (SetO w a S n) ∧
  ∀ (ns : List Int) (p : Addr), ns.Pairwise (· < ·) → (∀ k : Int, k ∈ ns ↔ S k = true) → ns.length = n → H p = none → Q (.ref p) (upd H p (.lst (ns.map V.int)))
theorem cu_sortSet (hc : X.calm = true) : CallR X (.builtin "sorted") (uSortSet X.w) := by
  intro pins s σ H vs us Q I r h
  obtain ⟨a, S, n, rfl, ha, q⟩ := h
  have R := setO_get I ha
  have nb : n ≤ 4096 := by
    obtain ⟨_, es, _, _, _, _, _, _, _, _, few, _, num, _⟩ := R
    have hs : scanBound = 4096 := rfl
    omega
  rw [Vals.ref1 r]
  refine sorted_of_set R (I.ok.hd hc) fun s' p out c ns k g o big got areI up mem len => ?_
  have line : (ns.map V.int).length ≤ sizeLine := by rw [List.length_map, len, sizeLine_eq]; omega
  have new : H p = none := I.hok.fresh big
  have J : Inv X pins σ (upd H p (.lst (ns.map V.int))) { s with heap := s'.heap, gens := s'.gens, drawn := s'.drawn, toks := s'.toks } :=
    I.call (ch := []) (Un.laid k big new) (I.hok.laid k big ⟨line, out.toList, c, vals_of_ints areI, got⟩) (by rw [g]; exact I.bare) (fun _ z => nomatch z)
  have same : s' = { s with heap := s'.heap, gens := s'.gens, drawn := s'.drawn, toks := s'.toks } := by
    cases s'; cases s; cases o; rfl
  rw [same]
  exact ⟨.ref p, _, J, rfl, q ns p up mem len new⟩
end
end Hm

/-! F1b: dicts whose keys are nested tuples of ints and texts. -/
namespace Hm
open PySem PySem.Spec PyProof.Rows L2

mutual
/-- the value v is the key k, its tuples tracked -/
def NkV (H : Hp) : NestedKey → V → Prop
  | .none, v => v = .non
  | .num i, v => v = .int i ∨ ∃ b : Bool, v = .bl b ∧ i = (if b = true then 1 else 0)
  | .text x, v => v = .str x
  | .tup ks, v => ∃ a vs, v = .ref a ∧ H a = some (.tup vs) ∧ NkVs H ks vs
def NkVs (H : Hp) : List NestedKey → List V → Prop
  | [], vs => vs = []
  | k :: ks, vs => ∃ v r, vs = v :: r ∧ NkV H k v ∧ NkVs H ks r
end
mutual
theorem NkV.keeps {H H' : Hp} (ht : ∀ b xs, H b = some (.tup xs) → H' b = some (.tup xs)) : ∀ (k : NestedKey) (v : V), NkV H k v → NkV H' k v
  | .none, _, h => by simpa only [NkV] using h
  | .num i, _, h => by simpa only [NkV] using h
  | .text x, _, h => by simpa only [NkV] using h
  | .tup ks, _, h => by
    simp only [NkV] at h ⊢
    obtain ⟨a, vs, e, ha, hs⟩ := h
    exact ⟨a, vs, e, ht _ _ ha, NkVs.keeps ht ks vs hs⟩
theorem NkVs.keeps {H H' : Hp} (ht : ∀ b xs, H b = some (.tup xs) → H' b = some (.tup xs)) : ∀ (ks : List NestedKey) (vs : List V), NkVs H ks vs → NkVs H' ks vs
  | [], _, h => by simpa only [NkVs] using h
  | k :: ks, _, h => by
    simp only [NkVs] at h ⊢
    obtain ⟨v, r, e, h1, h2⟩ := h
    exact ⟨v, r, e, NkV.keeps ht k v h1, NkVs.keeps ht ks r h2⟩
end
section
variable {P : Program} {w : World} {H : Hp} {h : Heap}
mutual
theorem nk_is (ok : HOk P w H h) : ∀ (k : NestedKey) (v : V) (u : Value), NkV H k v → RelV v u → NestedIs h k u
  | .none, _, _, e, r => by simp only [NkV] at e; subst e; cases r; exact .none
  | .num i, _, _, e, r => by
    simp only [NkV] at e
    rcases e with rfl | ⟨b, rfl, e⟩
    · obtain ⟨t, rfl⟩ := r; exact .int i t
    · cases r; exact .bool e
  | .text x, _, _, e, r => by simp only [NkV] at e; subst e; obtain ⟨t, rfl⟩ := r; exact .text x t
  | .tup ks, _, _, e, r => by
    simp only [NkV] at e
    obtain ⟨a, vs, rfl, ha, hs⟩ := e
    cases r
    obtain ⟨_, its, rv, o, h1, h2, n, h3⟩ := (show ObjOk P w H h a (.tup vs) from ok a _ ha)
    exact .tup h1 h2 h3 (by simpa using nks_are ok ks vs its hs rv)
theorem nks_are (ok : HOk P w H h) : ∀ (ks : List NestedKey) (vs : List V) (us : List Value), NkVs H ks vs → Vals vs us → NestedAll h ks us
  | [], _, _, e, r => by simp only [NkVs] at e; subst e; cases r; exact .nil
  | k :: ks, _, _, e, r => by
    simp only [NkVs] at e
    obtain ⟨v, rr, rfl, h1, h2⟩ := e
    cases r with
    | cons r1 r2 => exact .cons (nk_is ok k v _ h1 r1) (nks_are ok ks rr _ h2 r2)
end
end

/-- an entry: the key, its tuple's address, the value -/
abbrev NX := NestedKey × Addr × V
def NRel (p : NX) (q : NestedKey × Addr × Value) : Prop := p.1 = q.1 ∧ p.2.1 = q.2.1 ∧ RelV p.2.2 q.2.2
/-- the dict at a -/
def NdO (P : Program) (w : World) (a : Addr) (xs : List NX) : HO := .ext fun h => (a == sysModules) = false ∧ xs.length ≤ sizeLine ∧ ∃ ys, Paired NRel xs ys ∧
  ∃ o es ep, h.get? a = some o ∧ o.ExactDict ∧ o.data = .dict es ep ∧ es.toList = ys.map (entryOfKey (nestedKind P w)) ∧ (ys.map (·.1)).Nodup
structure NdAt (P : Program) (w : World) (H : Hp) (a : Addr) (xs : List NX) : Prop where
  here : H a = some (NdO P w a xs)
  keys : ∀ x ∈ xs, NkV H x.1 (.ref x.2.1) ∧ x.1.depth ≤ 8
def nval (xs : List NX) (k : NestedKey) : Option V := (xs.find? fun x => decide (x.1 = k)).map (·.2.2)
def nput (xs : List NX) (k : NestedKey) (a : Addr) (v : V) : List NX := if (nval xs k).isSome then xs.map fun x => if x.1 = k then (x.1, x.2.1, v) else x else xs ++ [(k, a, v)]

section
variable {P : Program} {w : World} {H H' : Hp} {h h' : Heap} {a : Addr} {xs : List NX}
theorem ndO_ok {ys : List (NestedKey × Addr × Value)} (z : (a == sysModules) = false) (l : xs.length ≤ sizeLine) (r : Paired NRel xs ys) (d : h.DictOfH (nestedKind P w) a ys) : ObjOk P w H h a (NdO P w a xs) := by
  obtain ⟨o, es, ep, e1, e2, e3, e4, e5, e6⟩ := d
  refine ⟨⟨z, l, ys, r, o, es, ep, e1, e2, e3, e4, e6⟩, ⟨o, e1⟩, fun h1 h2 q k => ?_⟩
  obtain ⟨z, l, ys, r, o, es, ep, f1, f⟩ := q
  exact ⟨z, l, ys, r, o, es, ep, k o f1, f⟩
theorem NdAt.get (ok : HOk P w H h) (N : NdAt P w H a xs) : (a == sysModules) = false ∧ xs.length ≤ sizeLine ∧ ∃ ys, Paired NRel xs ys ∧ h.DictOfH (nestedKind P w) a ys := by
  obtain ⟨⟨z, l, ys, r, o, es, ep, e1, e2, e3, e4, e6⟩, _, _⟩ := ok a _ N.here
  refine ⟨z, l, ys, r, o, es, ep, e1, e2, e3, e4, ?_, e6⟩
  have all : ∀ {l : List NX} {m : List (NestedKey × Addr × Value)}, Paired NRel l m → (∀ x ∈ l, NkV H x.1 (.ref x.2.1) ∧ x.1.depth ≤ 8) → ∀ y ∈ m, (nestedKind P w).is h y.1 y.2.1 := by
    intro l m q
    induction q with
    | nil => intro _ y hy; exact nomatch hy
    | @cons p q ps qs hq t ih =>
      intro hk y hy
      rcases List.mem_cons.mp hy with e | hy
      · subst e
        obtain ⟨k1, k2⟩ := hk p List.mem_cons_self
        rw [← hq.1, ← hq.2.1]
        exact ⟨nk_is ok p.1 _ _ k1 rfl, k2⟩
      · exact ih (fun x hx => hk x (List.mem_cons_of_mem _ hx)) y hy
  exact all r N.keys
theorem NRel.val {ys : List (NestedKey × Addr × Value)} (r : Paired NRel xs ys) (k : NestedKey) : RelO (nval xs k) ((atKey ys k).map (·.2)) := by
  induction r with
  | nil => exact True.intro
  | @cons p q ps qs hq t ih =>
    obtain ⟨h1, _, h3⟩ := hq
    by_cases e : p.1 = k
    · have e' : q.1 = k := h1.symm.trans e
      have b : atKey (q :: qs) k = some q.2 := by simp [atKey, List.find?_cons, e']
      have c : nval (p :: ps) k = some p.2.2 := by simp [nval, List.find?_cons, e]
      rw [c, b]; exact h3
    · have e' : ¬ q.1 = k := fun z => e (h1.trans z)
      have b : atKey (q :: qs) k = atKey qs k := by simp [atKey, List.find?_cons, e']
      have c : nval (p :: ps) k = nval ps k := by simp [nval, List.find?_cons, e]
      rw [c, b]; exact ih
theorem NRel.put {ys : List (NestedKey × Addr × Value)} (r : Paired NRel xs ys) (k : NestedKey) (b : Addr) {v : V} {u : Value} (rv : RelV v u) : Paired NRel (nput xs k b v) (storedH ys k b u) := by
  have e : (nval xs k).isSome = (atKey ys k).isSome := by rw [(NRel.val r k).isSome_eq, Option.isSome_map]
  unfold nput storedH
  rw [e]
  by_cases q : (atKey ys k).isSome = true
  · rw [if_pos q, if_pos q]
    clear e q
    induction r with
    | nil => exact .nil
    | @cons p q ps qs hq t ih =>
      rw [List.map_cons, List.map_cons]
      refine .cons ?_ ih
      obtain ⟨h1, h2, h3⟩ := hq
      unfold putAt
      by_cases e : p.1 = k
      · rw [if_pos e, if_pos (h1.symm.trans e)]; exact ⟨h1, h2, rv⟩
      · rw [if_neg e, if_neg (fun z => e (h1.trans z))]; exact ⟨h1, h2, h3⟩
  · rw [if_neg q, if_neg q]
    exact Paired.snoc r ⟨rfl, rfl, rv⟩
theorem nput_len (xs : List NX) (k : NestedKey) (b : Addr) (v : V) : (nput xs k b v).length ≤ xs.length + 1 := by
  unfold nput; split <;> simp
theorem nput_keys {k : NestedKey} {b : Addr} {v : V} (hk : ∀ x ∈ xs, NkV H x.1 (.ref x.2.1) ∧ x.1.depth ≤ 8) (hb : NkV H k (.ref b)) (d : k.depth ≤ 8) : ∀ x ∈ nput xs k b v, NkV H x.1 (.ref x.2.1) ∧ x.1.depth ≤ 8 := by
  intro x hx
  unfold nput at hx
  split at hx
  · obtain ⟨y, hy, e⟩ := List.mem_map.mp hx
    subst e
    split
    · exact hk y hy
    · exact hk y hy
  · rcases List.mem_append.mp hx with hx | hx
    · exact hk x hx
    · cases List.mem_singleton.mp hx; exact ⟨hb, d⟩
theorem NdAt.keep (N : NdAt P w H a xs) (ha : H' a = H a) (ht : ∀ b ys, H b = some (.tup ys) → H' b = some (.tup ys)) : NdAt P w H' a xs :=
  ⟨ha.trans N.here, fun x hx => ⟨NkV.keeps ht _ _ (N.keys x hx).1, (N.keys x hx).2⟩⟩
end

theorem nk_key {P : Program} {w : World} {H : Hp} {h : Heap} {k : NestedKey} {p : Addr} (ok : HOk P w H h) (kp : NkV H k (.ref p)) (d : k.depth ≤ 8) : (nestedKind P w).is h k p := ⟨nk_is ok k _ _ kp rfl, d⟩
section
variable {X : Cx}
/-- y in d -/
def uNIn (P : Program) (w : World) (neg : Bool) : R2 := fun y x H Q => ∃ a p k xs, x = .ref a ∧ y = .ref p ∧ NdAt P w H a xs ∧ NkV H k (.ref p) ∧ k.depth ≤ 8 ∧ Q (.bl (neg != (nval xs k).isSome)) H
theorem NdAt.isSome {P : Program} {w : World} {k : NestedKey} {xs : List NX} {ys : List (NestedKey × Addr × Value)} (r : Paired NRel xs ys) : (atKey ys k).isSome = (nval xs k).isSome := by
  rw [(NRel.val r k).isSome_eq, Option.isSome_map]
theorem ou_nin (hu : X.A.units + 64 < cLine) : OpR X (compareOp .In) (uNIn X.prog X.w false) := by
  intro pins s σ H y x v u Q I ry rx h
  obtain ⟨a, p, k, xs, rfl, rfl, N, kp, d, q⟩ := h
  cases rx; cases ry
  obtain ⟨z, l, ys, r, D⟩ := N.get I.hok
  refine wpAny_in_heap (show X.A.units + 1 + 8 < cLine by omega) (nk_key I.hok kp d) z D ?_
  rw [NdAt.isSome (P := X.prog) (w := X.w) r]
  exact ⟨.bl _, H, I.tok _, rfl, by simpa using q⟩
theorem ou_nnotin (hu : X.A.units + 64 < cLine) : OpR X (compareOp .NotIn) (uNIn X.prog X.w true) := by
  intro pins s σ H y x v u Q I ry rx h
  obtain ⟨a, p, k, xs, rfl, rfl, N, kp, d, q⟩ := h
  cases rx; cases ry
  obtain ⟨z, l, ys, r, D⟩ := N.get I.hok
  refine wpAny_notIn_heap (show X.A.units + 1 + 8 < cLine by omega) (nk_key I.hok kp d) z D ?_
  rw [NdAt.isSome (P := X.prog) (w := X.w) r]
  exact ⟨.bl _, H, I.tok _, rfl, by simpa using q⟩
/-- d[y] -/
def uNIx (P : Program) (w : World) : R2 := fun x y H Q => ∃ a p k xs v, x = .ref a ∧ y = .ref p ∧ NdAt P w H a xs ∧ NkV H k (.ref p) ∧ k.depth ≤ 8 ∧ nval xs k = some v ∧ Q v H
theorem ix_nd (hu : X.A.units + 64 < cLine) : IxR X (uNIx X.prog X.w) := by
  intro value slice pins s σ H x y v u Q I rx ry h hs
  obtain ⟨a, p, k, xs, z, rfl, rfl, N, kp, d, e, q⟩ := h
  cases rx; cases ry
  obtain ⟨_, l, ys, r, D⟩ := N.get I.hok
  obtain ⟨w', hw, rw'⟩ := RelO.some_of (v := z) (o := (atKey ys k).map (·.2)) (by rw [← e]; exact NRel.val r k)
  obtain ⟨q2, hq2, e2⟩ := Option.map_eq_some_iff.mp hw
  refine tail_any D.typeIs PySem.F.slot_dict_getitem.lookup (wpAny_getItem_heap (show X.A.units + 1 + 8 < cLine by omega) (nk_key I.hok kp d) D hq2 ?_) hs
  rw [e2]
  exact ⟨z, H, I.tok _, rw', q⟩
/-- a dict's item by int, text, or a flat tuple -/
def uDIx : R2 := fun x y H Q => ∃ a v, x = .ref a ∧ DGet H a y (some v) ∧ Q v H
theorem ix_d (hu : X.A.units + 64 < cLine) : IxR X uDIx := by
  intro value slice pins s σ H x y v u Q I rx ry h hs
  obtain ⟨a, z, rfl, g, q⟩ := h
  cases rx
  exact tail_any (dict_typeIs I g) PySem.F.slot_dict_getitem.lookup (d_getItem (by omega) I g ry fun w' s' I' rw' => ⟨z, H, I', rw', q⟩) hs
/-- y in d, keys ints, texts, flat tuples -/
def uDIn (neg : Bool) : R2 := fun y x H Q => ∃ a o, x = .ref a ∧ DGet H a y o ∧ Q (.bl (neg != o.isSome)) H
theorem ou_din (hu : X.A.units + 64 < cLine) : OpR X (compareOp .In) (uDIn false) := by
  intro pins s σ H y x v u Q I ry rx h
  obtain ⟨a, o, rfl, g, q⟩ := h
  cases rx
  exact d_in (by omega) I g ry fun s' I' => ⟨.bl _, H, I', rfl, by simpa using q⟩
theorem ou_dnotin (hu : X.A.units + 64 < cLine) : OpR X (compareOp .NotIn) (uDIn true) := by
  intro pins s σ H y x v u Q I ry rx h
  obtain ⟨a, o, rfl, g, q⟩ := h
  cases rx
  exact d_notIn (by omega) I g ry fun s' I' => ⟨.bl _, H, I', rfl, by simpa using q⟩
/-- d[y] = v -/
def uNSet (P : Program) (w : World) : V → V → V → Hp → (Hp → Prop) → Prop := fun o i v H Q => ∃ a p k xs, o = .ref a ∧ i = .ref p ∧ NdAt P w H a xs ∧ NkV H k (.ref p) ∧ k.depth ≤ 8 ∧ xs.length < sizeLine ∧ Q (upd H a (NdO P w a (nput xs k p v)))
theorem set_nd (hu : X.A.units + 64 < cLine) : PSet X (uNSet X.prog X.w) := by
  intro pins s σ H o i v ov iv u Q I ro ri rv h
  obtain ⟨a, p, k, xs, rfl, rfl, N, kp, d, few, q⟩ := h
  cases ro; cases ri
  obtain ⟨z, l, ys, r, D⟩ := N.get I.hok
  have hl : (nput xs k p v).length ≤ sizeLine := Nat.le_trans (nput_len xs k p v) few
  refine wpAny_setItem_heap (hsz := by rw [← Paired.length r]; exact l) (show X.A.units + 1 + 8 < cLine by omega) (nk_key I.hok kp d) D fun h' D' hs => ?_
  have he : ∃ q, h'.get? a = some q := let ⟨q, _, _, hq, _⟩ := D'; ⟨q, hq⟩
  exact ⟨_, d_write I (by rw [N.here]; exact True.intro) hs he (ndO_ok z hl (NRel.put r k p rv) D'), q⟩
def uDSet : V → V → V → Hp → (Hp → Prop) → Prop := fun o i v H Q => ∃ a H', o = .ref a ∧ DPut H a i v H' ∧ Q H'
theorem set_d (hu : X.A.units + 64 < cLine) : PSet X uDSet := by
  intro pins s σ H o i v ov iv u Q I ro ri rv h
  obtain ⟨a, H', rfl, g, q⟩ := h
  cases ro
  exact d_setItem (by omega) I g ri rv fun s' I' => ⟨H', I', q⟩
theorem PSet.or {X : Cx} {t t' : TSet} (h : PSet X t) (h' : PSet X t') : PSet X (fun o i v H Q => t o i v H Q ∨ t' o i v H Q) := by
  intro pins s σ H o i v ov iv u Q I ro ri rv q
  rcases q with q | q
  · exact h pins s σ H o i v ov iv u Q I ro ri rv q
  · exact h' pins s σ H o i v ov iv u Q I ro ri rv q
/-- {} with nested keys to come -/
theorem nd_empty {P : Program} {w : World} {H : Hp} (h : Heap) (hb : sysModules < h.objs.size) : ObjOk P w H (h.push { cls := .type "dict", data := .dict #[] }) h.objs.size (NdO P w h.objs.size []) :=
  ndO_ok (beq_eq_false_iff_ne.mpr (Ne.symm (Nat.ne_of_lt hb))) (Nat.zero_le _) .nil (Heap.DictOfH.new h)
def uDNew (P : Program) (w : World) : TE := fun _ H Q => (∃ kind : Bool, ∀ p, H p = none → Q (.ref p) (upd H p (if kind = true then .dK [] else NdO P w p []))) ∨ (∀ p, H p = none → Q (.ref p) (upd H p (.dT [])))
theorem pe_dnew {pos : Pos} : PE X (.Dict [] [] pos) (uDNew X.prog X.w) := ⟨fun pins s σ H Q I h => by
  rcases h with ⟨kind, q⟩ | q
  · cases kind with
    | true => exact wpAny_Dict_empty ⟨.ref s.heap.objs.size, _, I.laid (a := s.heap.objs.size) (o := .dK []) (t' := s.toks) (fun _ _ q => Heap.get?_push_of_some _ q) (Nat.le_refl _) (dk_empty s.heap I.big), rfl, q _ (I.hok.fresh (Nat.le_refl _))⟩
    | false => exact wpAny_Dict_empty ⟨.ref s.heap.objs.size, _, I.laid (a := s.heap.objs.size) (o := NdO X.prog X.w s.heap.objs.size []) (t' := s.toks) (fun _ _ q => Heap.get?_push_of_some _ q) (Nat.le_refl _) (nd_empty s.heap I.big), rfl, q _ (I.hok.fresh (Nat.le_refl _))⟩
  · exact pe_dnewT.run pins s σ H Q I q⟩
/-- {k: v} with one nested key -/
def uDisp1 (P : Program) (w : World) (tk tv : TE) : TE := fun σ H Q => ∀ p, H p = none → tk σ (upd H p (NdO P w p [])) fun x H1 => tv σ H1 fun y H2 =>
  ∃ k b, x = .ref b ∧ H2 p = some (NdO P w p []) ∧ NkV H2 k (.ref b) ∧ k.depth ≤ 8 ∧ Q (.ref p) (upd H2 p (NdO P w p [(k, b, y)]))
theorem pe_disp1 {ke ve : Expr} {tk tv : TE} {pos : Pos} (hu : X.A.units + 64 < cLine) (hk : PE X ke tk) (hv : PE X ve tv)
    (shape : (evalEachOpt [some ke] X.env).zip ((evalEach [ve] X.env).map fun v => do let x ← v; standAt pos; pure x) = [(eval ke X.env, (do let x ← eval ve X.env; standAt pos; pure x))].map fun p => (some p.1, p.2) := by rfl) :
    PE X (.Dict [some ke] [ve] pos) (uDisp1 X.prog X.w tk tv) := by
  refine ⟨fun pins s σ H Q I h => ?_⟩
  have hn := I.hok.fresh (Nat.le_refl s.heap.objs.size)
  have I1 := I.laid (a := s.heap.objs.size) (o := NdO X.prog X.w s.heap.objs.size []) (h' := s.heap.push { cls := .type "dict", data := .dict #[] }) (t' := s.toks) (fun _ _ q => Heap.get?_push_of_some _ q) (Nat.le_refl _) (nd_empty s.heap I.big)
  have h1 : PPs X pos [some ke] [ve] [(tk, tv)] := pps_cons hk hv pps_nil
  have trees : pairTrees [some ke] [ve] X.env pos = [(eval ke X.env, (do let x ← eval ve X.env; standAt pos; pure x))] := by rfl
  have run := h1.run pins _ σ _ (fun ps H2 => match ps with
    | [(x, y)] => ∃ k b, x = .ref b ∧ H2 s.heap.objs.size = some (NdO X.prog X.w s.heap.objs.size []) ∧ NkV H2 k (.ref b) ∧ k.depth ≤ 8 ∧ Q (.ref s.heap.objs.size) (upd H2 s.heap.objs.size (NdO X.prog X.w s.heap.objs.size [(k, b, y)]))
    | _ => False) I1 (h _ hn)
  rw [trees] at run
  rw [arm_eval_Dict, shape, dictDisplay_pairs _ (by simp) (by simp)]
  refine wpAny_bind (wpAny_standAt (wpAny_bind (wpAny_subDictH (knd := nestedKind X.prog X.w) (show X.A.units + 8 < cLine by omega) (by simp) (thn run fun vs s2 hh => ?_))))
  obtain ⟨ps, H2, I2, rel, q⟩ := hh
  split at q
  · rename_i x y
    obtain ⟨k, b, rfl, e, kb, d, q⟩ := q
    cases rel with
    | @cons p1 q1 ps qs rr t =>
    cases t
    obtain ⟨u1, u2⟩ := q1
    obtain ⟨r1, r2⟩ := rr
    cases (show u1 = Value.ref b from r1)
    obtain ⟨z, l, ys, rr, D⟩ := NdAt.get I2.hok (xs := []) ⟨e, fun _ hx => nomatch hx⟩
    cases rr
    refine ⟨[(k, b, u2)], ⟨rfl, rfl, nk_key I2.hok kb d, True.intro⟩, D, fun h' tk' D' hs => wpAny_pure ⟨.ref s.heap.objs.size, _, ?_, rfl, q⟩⟩
    have he : ∃ q, h'.get? s.heap.objs.size = some q := let ⟨q, _, _, hq, _⟩ := D'; ⟨q, hq⟩
    exact d_write I2 (by rw [e]; exact True.intro) hs he (ndO_ok (ys := [(k, b, u2)]) z (by rw [sizeLine_eq]; exact (by decide : (1 : Nat) ≤ 16777216)) (.cons ⟨rfl, rfl, r2⟩ .nil) D')
  · exact q.elim
end
/-! sorted(t), t a tuple of ints -/
section
open PyProof.Rows
variable {P : Program} {w : World} {A : Around} {E : Value → Shared → Prop} {s : Shared}
theorem collect_tup {l : Addr} {vs : List Value} {Q : List Value → Shared → Prop} (hl : s.heap.IsTuple l vs.toArray) (hsz : vs.length ≤ sizeLine)
    (h : Q vs { s with heap := (s.heap.push (seqObj "list" #[] 0)).update s.heap.objs.size (Obj.mapSeq (· ++ vs.toArray)) }) :
    wpAny (model P w) A (collect (.ref l)) Q E s := by
  obtain ⟨o, ho, hc, n, hd⟩ := id hl
  unfold collect
  refine wpAny_bind (wpAny_runValue (codeAny_builtin entry_proto_collect' ?_))
  show wpAny _ _ (do again (.builtin "list.__iadd__" ⟨[← newList [], .ref l], []⟩)) _ _ s
  refine wpAny_bind (wpAny_newList (wpAny_pure ⟨Code.quiet_builtin _ (by decide +kernel), codeAny_builtin entry_list_iadd' ?_⟩))
  show wpAny _ _ (Builtin.List.listExtendWith (.ref s.heap.objs.size) (.ref l) (.ref s.heap.objs.size)) _ _ { s with heap := s.heap.push (seqObj "list" #[] 0) }
  unfold Builtin.List.listExtendWith
  have ho' : (s.heap.push (seqObj "list" #[] 0)).get? l = some o := Heap.get?_push_of_some _ ho
  refine wpAny_bind (wpAny_typeOf (T := "tuple") ⟨o, ho', hc⟩ ?_)
  have ht : (Value.type "tuple" == Value.type "tuple") = true := by rfl
  rw [if_pos (by rw [ht]; simp)]
  refine wpAny_bind (listItems_at ho' hd ?_)
  refine wpAny_bind (listItems_at (xs := #[]) (n := 0) (Heap.get?_push_size _ rfl) rfl ?_)
  rw [if_neg (by simp)]
  refine wpAny_bind (listUpdate_at (xs := #[]) (n := 0) (Heap.get?_push_size _ rfl) rfl ?_ (Nat.zero_le _) (by show (#[] ++ vs.toArray).size ≤ sizeLine + 1; simp only [Array.size_append, List.size_toArray, List.length_nil]; omega))
  refine wpAny_pure ?_
  show wpAny (model P w) A (do
      let o ← load s.heap.objs.size
      match o.data with
      | .seq xs _ => pure xs.toList
      | _ => unsupported "internal:collect") Q E { s with heap := (s.heap.push (seqObj "list" #[] 0)).update s.heap.objs.size (Obj.mapSeq (· ++ vs.toArray)) }
  refine wpAny_bind (wpAny_load (get?_update_seq (Heap.get?_push_size _ rfl) _) ?_)
  show wpAny _ _ (pure ((#[] : Array Value) ++ vs.toArray).toList) Q E _
  rw [show ((#[] : Array Value) ++ vs.toArray).toList = vs by simp]
  exact wpAny_pure h
theorem sorted_of_tup {l : Addr} {vs : List Value} {ns : List Int} {Q : Value → Shared → Prop} (hl : s.heap.IsTuple l vs.toArray) (hsz : vs.length ≤ sizeLine) (areI : IntsAre vs ns)
    (fin : ∀ (h' : Heap) (p : Addr) (out : Array Value) (c : Nat) (ns' : List Int), (∀ b o, s.heap.get? b = some o → h'.get? b = some o) → s.heap.objs.size ≤ p → h'.get? p = some (seqObj "list" out c) → IntsAre out.toList ns' → ns'.Perm ns → ns'.Pairwise (· ≤ ·) → Q (.ref p) { s with heap := h' }) :
    wpAny (model P w) A (call (.builtin "sorted") [.ref l]) Q E s := by
  refine Calls.call_function_entry kind_sorted plain_sorted entry_sorted (args_sorted1 _) ?_
  unfold Builtin.«sorted»
  refine wpAny_bind (m := checkCount "sorted" 1 1 _) (wpAny_pure ?_)
  refine wpAny_bind (collect_tup hl hsz ?_)
  have k1 : ∀ b o, s.heap.get? b = some o → ((s.heap.push (seqObj "list" #[] 0)).update s.heap.objs.size (Obj.mapSeq (· ++ vs.toArray))).get? b = some o := fun b o q => by
    rw [Heap.get?_update_ne _ _ _ _ (Nat.ne_of_lt (Heap.lt_size q))]
    exact Heap.get?_push_of_some _ q
  have big : s.heap.objs.size ≤ ((s.heap.push (seqObj "list" #[] 0)).update s.heap.objs.size (Obj.mapSeq (· ++ vs.toArray))).objs.size := by
    rw [Heap.size_update, size_push']; omega
  generalize (s.heap.push (seqObj "list" #[] 0)).update s.heap.objs.size (Obj.mapSeq (· ++ vs.toArray)) = h1 at k1 big ⊢
  refine wpAny_bind (wpAny_newList ?_ hsz)
  have at1 : (h1.push (seqObj "list" vs.toArray 0)).get? h1.objs.size = some (seqObj "list" vs.toArray 0) := Heap.get?_push_size _ rfl
  refine wpAny_bind (wpAny_holding (wpAny_call_entry slot_list_sort ⟨_, at1, rfl⟩ entry_list_sort
    (SrtO.list_sort_ord SrtO.swo_int at1 hsz (fun h2 => SrtO.ints_sortable areI h2) fun out z1 z2 => ⟨_, rfl, ?_⟩) (args_list_sort _)))
  obtain ⟨j1, j2, j3⟩ := SrtO.ints_out areI z1 z2
  obtain ⟨c, hc⟩ := sortedHeap_at (vs := vs) (out := out.toArray) at1
  refine wpAny_pure ⟨_, rfl, fin _ h1.objs.size out.toArray c (out.map SrtO.iv) (fun b u e => ?_) big hc (by simpa using j1) j2 j3⟩
  have q := k1 b u e
  have lt := Heap.lt_size q
  rw [sortedHeap_old (Nat.ne_of_lt lt) (by rw [size_push']; exact Nat.lt_succ_of_lt lt)]
  exact Heap.get?_push_of_some _ q
end
section
variable {X : Cx}
def rSortTup (K : PySem.W.Frag) : List V → Hp → VK → Prop := fun xs H Q => ∃ (l : Addr) (ns : List Int), xs = [.ref l] ∧ SqT K H l (ns.map V.int) ∧
  ∀ (ns' : List Int) (p : Addr), ns'.Perm ns → ns'.Pairwise (· ≤ ·) → H p = none → Q (.ref p) (upd H p (.lst (ns'.map V.int)))
theorem cu_sortTup : CallR X (.builtin "sorted") (rSortTup X.K) := by
  intro pins s σ H vs us Q I r h
  obtain ⟨l, ns, rfl, hq, q⟩ := h
  rw [Vals.ref1 r]
  obtain ⟨its, rv, p, hz⟩ := I.tuple hq
  have areI : IntsAre its ns := rv.ints
  refine sorted_of_tup (show s.heap.IsTuple l its.toArray from p) (by rw [← rv.length]; exact hz) areI fun h' p' out c ns' k big got a1 a2 a3 => ?_
  have line : (ns'.map V.int).length ≤ sizeLine := by rw [List.length_map, a2.length_eq]; rw [List.length_map] at hz; exact hz
  have new : H p' = none := I.hok.fresh big
  exact ⟨.ref p', upd H p' (.lst (ns'.map V.int)), I.laid (t' := s.toks) k big ⟨line, out.toList, c, vals_of_ints a1, got⟩, rfl, q ns' p' a2 a3 new⟩
/-- sorted(d), d a dict whose keys are ints, of any size -/
def uSortDict : List V → Hp → VK → Prop := fun xs H Q => ∃ (a : Addr) (kvs : List (L2.Key × V)) (ks : List Int), xs = [.ref a] ∧ H a = some (.dK kvs) ∧ kvs.map (·.1) = ks.map Sum.inl ∧
  ∀ (ys : List Int) (p : Addr), ys.Perm ks → ys.Pairwise (· ≤ ·) → H p = none → Q (.ref p) (upd H p (.lst (ys.map V.int)))
theorem ints_each' : ∀ {us : List Value} {ks : List Int}, us.length = ks.length → (∀ (j : Nat) (v : Value), us[j]? = some v → ∃ (x : Int) (t : _), ks[j]? = some x ∧ v = .int x t) → IntsAre us ks
  | [], [], _, _ => .nil
  | u :: us, k :: ks, hl, h => by
    obtain ⟨x, t, e1, e2⟩ := h 0 u rfl
    have e1' : k = x := Option.some.inj e1
    subst e1'
    subst e2
    refine .cons _ _ (ints_each' (by simpa using hl) fun j v e => ?_)
    obtain ⟨x, t, a, b⟩ := h (j + 1) v (by simpa using e)
    exact ⟨x, t, by simpa using a, b⟩
  | [], _ :: _, hl, _ => by simp at hl
  | _ :: _, [], hl, _ => by simp at hl
theorem cu_sortDict (hcalm : X.calm = true) : CallR X (.builtin "sorted") uSortDict := by
  intro pins s σ H xs us Q I r q
  obtain ⟨a, kvs, ks, rfl, hd, hks, q⟩ := q
  rw [Vals.ref1 r]
  obtain ⟨z, lo, vs, rel, dd⟩ := dk_rd I.hok (.inl hd)
  obtain ⟨ep, hat⟩ := dd.dictAt
  have hkeys : vs.map (·.1) = ks.map Sum.inl := rel.keys.symm.trans hks
  have hl : vs.length = ks.length := by
    have e := congrArg List.length hkeys
    rw [List.length_map, List.length_map] at e
    exact e
  have h16 : vs.length ≤ sizeLine := by rw [← rel.length]; exact z
  refine Calls.call_function_entry kind_sorted plain_sorted entry_sorted (args_sorted1 _) ?_
  unfold Builtin.«sorted»
  refine wpAny_bind (m := checkCount "sorted" 1 1 _) (wpAny_pure ?_)
  refine wpAny_bind (PySem.W.kdu_collect (A := X.A.in1) (PySem.W.kdl_dict (knd := mixKind X.prog X.w) (kvs := vs) (ep := ep) lo) (I.ok.hd hcalm) hat h16 fun h' tk acc hk hacc => ?_)
  have hal : acc.toList.length = ks.length := by rw [Array.length_toList, hacc.1, hl]
  have areI : IntsAre acc.toList ks := ints_each' hal fun j v e => by
    obtain ⟨k, x, e1, e2⟩ := hacc.2 j v (by rw [← Array.getElem?_toList]; exact e)
    have e3 : (vs.map (·.1))[j]? = some k := by rw [List.getElem?_map, e1]; rfl
    rw [hkeys, List.getElem?_map] at e3
    cases e4 : ks[j]? with
    | none => rw [e4] at e3; cases e3
    | some y =>
      rw [e4] at e3
      have e5 : Sum.inl y = k := Option.some.inj e3
      subst e5
      rcases keyIs_shape (show keyIs (Sum.inl y) v = true from e2) with ⟨i, t, ek, ev⟩ | ⟨z, t, ek, ev⟩
      · cases ek
        exact ⟨y, t, rfl, ev⟩
      · cases ek
  have I1 : Inv X pins σ H { s with heap := h', toks := tk } := I.kept hk
  have hal2 : acc.toList.length ≤ sizeLine := by rw [hal, ← hl]; exact h16
  refine wpAny_bind (wpAny_newList ?_ hal2)
  have at1 : (h'.push (seqObj "list" acc.toList.toArray 0)).get? h'.objs.size = some (seqObj "list" acc.toList.toArray 0) := Heap.get?_push_size _ rfl
  show wpAny _ _ _ _ _ { s with heap := h'.push (seqObj "list" acc.toList.toArray 0), toks := tk }
  refine wpAny_bind (wpAny_holding (wpAny_call_entry slot_list_sort ⟨_, at1, rfl⟩ entry_list_sort
    (SrtO.list_sort_ord SrtO.swo_int (s := { s with heap := h'.push (seqObj "list" acc.toList.toArray 0), toks := tk }) at1 hal2 (fun h2 => SrtO.ints_sortable areI h2) fun out z1 z2 => ⟨_, rfl, ?_⟩) (args_list_sort _)))
  obtain ⟨j1, j2, j3⟩ := SrtO.ints_out areI z1 z2
  obtain ⟨c, hc⟩ := sortedHeap_at (vs := acc.toList) (out := out.toArray) at1
  have hlen : ((out.map SrtO.iv).map V.int).length ≤ sizeLine := by
    rw [List.length_map, j2.length_eq, ← hl]; exact h16
  refine wpAny_pure ⟨_, rfl, .ref h'.objs.size, upd H h'.objs.size (.lst ((out.map SrtO.iv).map V.int)), I1.laid (t' := tk) (fun b u e => ?_) (Nat.le_refl _)
    (show ObjOk X.prog X.w _ _ _ (.lst ((out.map SrtO.iv).map V.int)) from ⟨hlen, out, c, vals_of_ints j1, hc⟩), rfl, q _ _ j2 j3 (I1.hok.fresh (Nat.le_refl _))⟩
  have hb : b < h'.objs.size := Heap.lt_size e
  rw [sortedHeap_old (Nat.ne_of_lt hb) (by rw [size_push']; exact Nat.lt_succ_of_lt hb)]
  exact Heap.get?_push_of_some _ e
end
end Hm

/-! F2: rules by syntax alone (each a choice by values), and their readings. -/
namespace Hm
open PySem PySem.Spec PyProof.Rows L2

/-! ### choices by values -/
def bAdd (K : PySem.W.Frag) : R2 := fun x y H Q => rI0 (fun i j => .int (i + j)) x y H Q ∨ rCat x y H Q ∨
  (∃ i j, x = .str i ∧ y = .str j ∧ i.length + j.length ≤ sizeLine ∧ Q (.str (i ++ j)) H) ∨ rCatA K x y H Q
def bSub : R2 := rI0 fun i j => .int (i - j)
def bMul : R2 := fun x y H Q => rI CMul (fun i j => .int (i * j)) x y H Q ∨ rI CMulW (fun i j => .int (i * j)) x y H Q ∨ rRep x y H Q
def bMod : R2 := rI (fun _ j => 0 < j) fun i j => .int (i % j)
def bDiv : R2 := fun x y H Q => rI CDiv (fun i j => .int (i / j)) x y H Q ∨ rI CDivW (fun i j => .int (i / j)) x y H Q
def bPow : R2 := rI CPow fun i j => .int (i ^ j.toNat)
def bAnd : R2 := rI0 fun i j => .int (Builtin.bitAnd i j)
def bXor : R2 := rI0 fun i j => .int (Builtin.bitXor i j)
def cEq (K : PySem.W.Frag) : R2 := fun x y H Q => rEq x y H Q ∨ rEqD K x y H Q
def cNe (K : PySem.W.Frag) : R2 := fun x y H Q => rNe x y H Q ∨ rNeD K x y H Q
def cLt (K : PySem.W.Frag) : R2 := fun x y H Q => rI0 (fun i j => .bl (decide (i < j))) x y H Q ∨
  (∃ i j, x = .str i ∧ y = .str j ∧ Q (.bl (decide (i.cps.toList < j.cps.toList))) H) ∨ rLtT K x y H Q
def cLe : R2 := rI0 fun i j => .bl (decide (i ≤ j))
def cGt : R2 := rI0 fun i j => .bl (decide (j < i))
def cGe : R2 := rI0 fun i j => .bl (decide (j ≤ i))
def cIs : R2 := fun x y H Q => (y = .non ∧ Q (.bl (decide (x = .non))) H) ∨ rIsB x y H Q
def cIsNot : R2 := fun x y H Q => (y = .non ∧ Q (.bl (!decide (x = .non))) H) ∨ rNotB x y H Q
def cIn (P : Program) (w : World) (K : PySem.W.Frag) : R2 := fun x y H Q => rIn K false x y H Q ∨ rInD K x y H Q ∨ rInS x y H Q ∨ uDIn false x y H Q ∨ uNIn P w false x y H Q
def cNotIn (P : Program) (w : World) (K : PySem.W.Frag) : R2 := fun x y H Q => rIn K true x y H Q ∨ rNotInD K x y H Q ∨ rNotInS x y H Q ∨ uDIn true x y H Q ∨ uNIn P w true x y H Q
def bIx (P : Program) (w : World) (K : PySem.W.Frag) : R2 := fun x y H Q => rIxL K x y H Q ∨ rIxT K x y H Q ∨ rIxS x y H Q ∨ uDIx x y H Q ∨ uNIx P w x y H Q
def bSet (P : Program) (w : World) : TSet := fun o i v H Q => rSetL o i v H Q ∨ uDSet o i v H Q ∨ uNSet P w o i v H Q
def kLen (K : PySem.W.Frag) : List V → Hp → VK → Prop := fun xs H Q => (∃ x n, xs = [x] ∧ LenV K x H n ∧ Q (.int n) H) ∨ (∃ a kvs, xs = [V.ref a] ∧ H a = some (.dK kvs) ∧ Q (.int kvs.length) H)
def kList (K : PySem.W.Frag) : List V → Hp → VK → Prop := fun xs H Q => (∃ p ys, xs = [.ref p] ∧ (SqL K H p ys ∨ SqT K H p ys) ∧ ∀ l, H l = none → Q (.ref l) (upd H l (.lst ys))) ∨ rListD xs H Q
def kTuple (K : PySem.W.Frag) : List V → Hp → VK → Prop := fun xs H Q => ∃ p ys, xs = [.ref p] ∧ ((SqL K H p ys ∧ ∀ l, H l = none → Q (.ref l) (upd H l (.tup ys))) ∨ (SqT K H p ys ∧ Q (.ref p) H))
def kSorted (K : PySem.W.Frag) (w : World) : List V → Hp → VK → Prop := fun xs H Q => rSortedI K xs H Q ∨ uSortSet w xs H Q ∨ rSortTup K xs H Q ∨ uSortDict xs H Q
def kMax (K : PySem.W.Frag) : List V → Hp → VK → Prop := fun xs H Q => (∃ i j, xs = [.int i, .int j] ∧ Q (.int (if j > i then j else i)) H) ∨ rMax K xs H Q
def kMin (K : PySem.W.Frag) : List V → Hp → VK → Prop := fun xs H Q => (∃ i j, xs = [.int i, .int j] ∧ Q (.int (if j < i then j else i)) H) ∨ rMin K xs H Q
def kAbs : List V → Hp → VK → Prop := fun xs H Q => ∃ i, xs = [.int i] ∧ Q (.int (if i < 0 then -i else i)) H
def kInt : List V → Hp → VK → Prop := fun xs H Q => (∃ i, xs = [.int i] ∧ Q (.int i) H) ∨ ∃ k, xs = [.bl k] ∧ Q (.int (if k then 1 else 0)) H
def tTru (K : PySem.W.Frag) (ta : TE) : TT := fun σ H Q => ta σ H fun x H' => ∃ k, TruV K x H' k ∧ Q k H'
def bSl (K : PySem.W.Frag) : V → Option Int → Option Int → Hp → VK → Prop := fun x lo hi H Q => rSlL K x lo hi H Q ∨ rSlA K x lo hi H Q
/-- (a, b) = a tuple or a list of that length -/
def gSeq (K : PySem.W.Frag) (n : Nat) (t : TGs) : TG := fun v σ H Q => gTup K n t v σ H Q ∨ gUnl K n t v σ H Q
def kInsert : V → List V → Hp → VK → Prop := fun x vs H Q => ∃ (l : Addr) (xs : List V) (i : Int) (y : V), x = .ref l ∧ vs = [.int i, y] ∧ H l = some (.lst xs) ∧ xs.length < sizeLine ∧ 0 ≤ i ∧ i < 2 ^ 63 ∧
    Q .non (upd H l (.lst (xs.take i.toNat ++ [y] ++ xs.drop i.toNat)))
def kIndex (K : PySem.W.Frag) : V → List V → Hp → VK → Prop := fun x xs H Q => rIndex K x xs H Q ∨ rIndexD K x xs H Q

def rTupIndex (K : PySem.W.Frag) : V → List V → Hp → VK → Prop := fun x xs H Q => ∃ p, ∃ ys : List Str, ∃ z j, x = .ref p ∧ xs = [.str z] ∧ SqT K H p (ys.map V.str) ∧ ys[j]? = some z ∧ (∀ m, m < j → ys[m]? ≠ some z) ∧ Q (.int (j : Nat)) H

section
variable {X : Cx}
theorem hu64 {k : Nat} {A : Around} (hr : Room k A) : A.units + 64 < cLine := hr.units
theorem hu1 {k : Nat} {A : Around} (hr : Room k A) : A.units + 1 < cLine := by have := hr.un; omega
theorem hu65 {k : Nat} {A : Around} (hr : Room k A) : A.units + 65 < cLine := by have := hr.un; omega
theorem o_add : OpR X (binaryOp .Add) (bAdd X.K) := op_add.or (op_cat.or (op_add_str.or op_catA))
theorem o_sub : OpR X (binaryOp .Sub) bSub := op_sub
theorem o_mul : OpR X (binaryOp .Mult) bMul := op_mul.or (op_mulW.or op_rep)
theorem o_mod : OpR X (binaryOp .Mod) bMod := op_mod
theorem o_div : OpR X (binaryOp .FloorDiv) bDiv := op_fdiv.or op_fdivW
theorem o_pow : OpR X (binaryOp .Pow) bPow := op_pow
theorem o_and : OpR X (binaryOp .BitAnd) bAnd := op_and
theorem o_xor : OpR X (binaryOp .BitXor) bXor := op_xor
theorem o_eq (hu : X.A.units + 64 < cLine) : OpR X (compareOp .Eq) (cEq X.K) := op_eq.or (op_eqD hu)
theorem o_ne (hu : X.A.units + 64 < cLine) : OpR X (compareOp .NotEq) (cNe X.K) := op_ne.or (op_neD hu)
theorem o_lt (hu : X.A.units + 64 < cLine) : OpR X (compareOp .Lt) (cLt X.K) := op_lt.or (op_lt_str.or (op_ltT (by omega)))
theorem o_le : OpR X (compareOp .LtE) cLe := op_le
theorem o_gt : OpR X (compareOp .Gt) cGt := op_gt
theorem o_ge : OpR X (compareOp .GtE) cGe := op_ge
theorem o_is : OpR X (compareOp .Is) cIs := op_isN.or op_isBl
theorem o_isnot : OpR X (compareOp .IsNot) cIsNot := op_notN.or op_notBl
theorem o_in (hu : X.A.units + 65 < cLine) : OpR X (compareOp .In) (cIn X.prog X.w X.K) := op_in_seq.or ((op_inD hu).or (op_inS.or ((ou_din (by omega)).or (ou_nin (by omega)))))
theorem o_notin (hu : X.A.units + 65 < cLine) : OpR X (compareOp .NotIn) (cNotIn X.prog X.w X.K) := op_notIn_seq.or ((op_notInD hu).or (op_notInS.or ((ou_dnotin (by omega)).or (ou_nnotin (by omega)))))
theorem x_ix (hu : X.A.units + 64 < cLine) : IxR X (bIx X.prog X.w X.K) := ix_list.or (ix_tup.or (ix_str.or ((ix_d hu).or (ix_nd hu))))
theorem s_set (hu : X.A.units + 64 < cLine) : PSet X (bSet X.prog X.w) := PSet.or set_list (PSet.or (set_d hu) (set_nd hu))
theorem k_len : CallR X (.builtin "len") (kLen X.K) := call_len.or call_lenD
theorem k_list (hc : X.calm = true) : CallR X (.type "list") (kList X.K) := call_list_of.or (call_list_dK hc)
theorem k_tuple : CallR X (.type "tuple") (kTuple X.K) := call_tuple_of
theorem k_sorted (hc : X.calm = true) : CallR X (.builtin "sorted") (kSorted X.K X.w) := cr_sortedI.or ((cu_sortSet hc).or (cu_sortTup.or (cu_sortDict hc)))
theorem k_set (hc : X.calm = true) : CallR X (.type "set") (uSetI X.K X.w) := cu_setI hc
theorem k_max (hc : X.calm = true) : CallR X (.builtin "max") (kMax X.K) := (call_max2 hc).or (cr_max hc)
theorem k_min (hc : X.calm = true) : CallR X (.builtin "min") (kMin X.K) := (call_min2 hc).or (cr_min hc)
theorem k_abs : CallR X (.builtin "abs") kAbs := call_abs
theorem k_int : CallR X (.type "int") kInt := call_int1
theorem k_isi : CallR X (.builtin "isinstance") (rIsi X.K) := call_isi
theorem p_tru {a : Expr} {ta : TE} (ha : PE X a ta) (he : ∀ whole, isTrue a X.env whole = (do let v ← whole; standAt a.pos; holding [v] (truthy v)) := by intro _; rfl) : PT X a (tTru X.K ta) := pt_truth ha he
theorem s_sl : SlR X (bSl X.K) := sl_list.or sl_tupA
theorem g_seq {es : List Expr} {k : Nat} {t : TGs} {n : Nat} {pos : Pos} (hc : X.calm = true) (h : PGs X es t)
    (hn : (assignEach es X.env).length = n := by rfl) (hst : (assignEach es X.env).findIdx? (·.1) = none := by rfl) : PG X (.Tuple es k pos) (gSeq X.K n t) := by
  refine ⟨fun pins s σ H v u Q I r hw => ?_⟩
  rcases hw with hw | hw
  · exact (pg_tup hc h hn hst).run pins s σ H v u Q I r hw
  · exact (pg_unl hc h hn hst).run pins s σ H v u Q I r hw
/-- what a for walks, by its value -/
def kIter (K : PySem.W.Frag) (x : V) (H : Hp) (R : It → Hp → Prop) : Prop := (∃ a, x = .ref a ∧ (∃ xs, SqL K H a xs) ∧ R (Itl K a) H) ∨ (∃ a, x = .ref a ∧ (∃ xs, SqT K H a xs) ∧ R (Itt K a) H) ∨ ∃ z, x = .str z ∧ R (Its z) H
def iAny (K : PySem.W.Frag) (tl : TE) : TI := fun σ H R => tl σ H fun x H1 => kIter K x H1 R
theorem pi_any {tg l : Expr} {tl : TE} (hl : PE X l tl) : PI X tg l (iAny X.K tl) := by
  refine ⟨fun pins s σ H R I h => thn (hl.run pins s σ H _ I h) fun v s1 ⟨x, H1, I1, r1, q1⟩ => ?_⟩
  have own : ∀ {Q : Hp}, Inv X pins σ Q s1 → ∀ b ∈ [s1.heap.objs.size], FpOk X pins Q b := fun J b hb => by
    cases List.mem_singleton.mp hb
    exact J.fpOk (Nat.le_refl _) (J.hok.fresh (Nat.le_refl _))
  rcases q1 with ⟨a, rfl, ⟨xs, hq⟩, q⟩ | ⟨a, rfl, ⟨xs, hq⟩, q⟩ | ⟨z, rfl, q⟩
  · cases r1
    obtain ⟨its, rv, p, hz⟩ := I1.list hq
    exact wpAny_pyIter_list p.isList ⟨_, [s1.heap.objs.size], _, _, H1, rfl, I1.kept (t' := s1.toks) fun b o e => Heap.get?_push_of_some _ e, turn_list a _, ⟨_, Heap.get?_push_size _ rfl, rfl, rfl⟩, own I1, q⟩
  · cases r1
    obtain ⟨its, rv, p, hz⟩ := I1.tuple hq
    exact wpAny_pyIter_tuple (show s1.heap.IsTuple a its.toArray from p) ⟨_, [s1.heap.objs.size], _, _, H1, rfl, I1.kept (t' := s1.toks) fun b o e => Heap.get?_push_of_some _ e, turn_tuple a _, ⟨_, Heap.get?_push_size _ rfl, rfl, rfl⟩, own I1, q⟩
  · obtain ⟨t, rfl⟩ := r1
    cases ha : z.cps.all (· < 128)
    · exact wpAny_pyIter_wide ha (pi_one (tk := s1.toks) I1 _ (turn_str _ z t "str_iterator" (.inr rfl)) ⟨_, Heap.get?_push_size _ rfl, rfl, rfl⟩ q)
    · exact wpAny_pyIter_ascii ha (pi_one (tk := s1.toks) I1 _ (turn_str _ z t "str_ascii_iterator" (.inl rfl)) ⟨_, Heap.get?_push_size _ rfl, rfl, rfl⟩ q)
theorem mt_kindex (hu : X.A.units + 65 < cLine) : MtR X "list.index" (kIndex X.K) := mt_index.or (mt_indexD hu)
end
/-! ### defs, methods, classes of the text, by their promises -/
structure Cal (P : Program) (w : World) (K : PySem.W.Frag) (mg : Str → Option Value) (base : Heap) (CX : CXT) (k : Nat) (x : Str) (sp : Sp) : Prop where
  ex : ∃ (f : Addr) (fd : FuncData) (ps : List Str), FnOk P w K mg base CX k f fd ps sp ∧ mg x = some (.ref f) ∧ PySem.W.keepIn K (.ref f) = true ∧ Binds K fd ps []
structure Met (P : Program) (w : World) (K : PySem.W.Frag) (mg : Str → Option Value) (base : Heap) (CX : CXT) (k : Nat) (C : Addr) (m : Str) (sp : Sp) : Prop where
  ex : ∃ (f : Addr) (fd : FuncData) (ps : List Str), Cls K C ∧ Meth K C m f ∧ FnOk P w K mg base CX k f fd ps sp ∧ Binds K fd ps []
structure Mak (P : Program) (w : World) (K : PySem.W.Frag) (mg : Str → Option Value) (base : Heap) (CX : CXT) (k : Nat) (x : Str) (C : Addr) (sp : Sp) : Prop where
  ex : ∃ (f : Addr) (fd : FuncData) (ps : List Str), Mk K C f ∧ FnOk P w K mg base CX k f fd ps sp ∧ mg x = some (.ref C) ∧ Binds K fd ps []
section
variable {X : Cx} {CX : CXT} {E : XK} {k j : Nat} {C : Addr} {x m : Str} {sp : Sp} {p pos apos : Pos} {e o : Expr} {es : List Expr} {ta : TE} {t : TA}
theorem e_call (c : Cal X.prog X.w X.K X.mg X.base CX k x sp) (hr : Room j X.A) (hk : k ≤ j) (hx : Passes CX X E) (hg : Gl X x) (ha : PA X (e :: es) t)
    (hdb : (x == ("__debug__" : Str)) = false := by decide) (he : starEach (e :: es) X.env = (false, eval e X.env) :: starEach es X.env := by rfl) (hpl : (backTo pos (starEach es X.env)).any (·.1) = false := by rfl) :
    PE X (.Call (.Name x p) (e :: es) [] pos) (tCall sp [] E t) := by
  obtain ⟨f, fd, ps, F, hm, kp, b⟩ := c.ex
  exact pe_call F (hr.mono hk) hg hm kp b .nil hx ha hdb he hpl
theorem e_call0 (c : Cal X.prog X.w X.K X.mg X.base CX k x sp) (hr : Room j X.A) (hk : k ≤ j) (hx : Passes CX X E) (hg : Gl X x) (hdb : (x == ("__debug__" : Str)) = false := by decide) :
    PE X (.Call (.Name x p) [] [] pos) (tCall sp [] E tNil) := by
  obtain ⟨f, fd, ps, F, hm, kp, b⟩ := c.ex
  exact pe_call0 F (hr.mono hk) hg hm kp b .nil hx hdb
theorem e_make (c : Mak X.prog X.w X.K X.mg X.base CX k x C sp) (hr : Room j X.A) (hk : k + 1 ≤ j) (hx : Passes CX X E) (hg : Gl X x) (ha : PA X (e :: es) t)
    (hdb : (x == ("__debug__" : Str)) = false := by decide) (he : starEach (e :: es) X.env = (false, eval e X.env) :: starEach es X.env := by rfl) (hpl : (backTo pos (starEach es X.env)).any (·.1) = false := by rfl) :
    PE X (.Call (.Name x p) (e :: es) [] pos) (tMake C sp [] E t) := by
  obtain ⟨f, fd, ps, M, F, hm, b⟩ := c.ex
  exact pe_make M F (hr.mono hk) hg hm b .nil hx ha hdb he hpl
theorem e_make0 (c : Mak X.prog X.w X.K X.mg X.base CX k x C sp) (hr : Room j X.A) (hk : k + 1 ≤ j) (hx : Passes CX X E) (hg : Gl X x) (hdb : (x == ("__debug__" : Str)) = false := by decide) :
    PE X (.Call (.Name x p) [] [] pos) (tMake C sp [] E tNil) := by
  obtain ⟨f, fd, ps, M, F, hm, b⟩ := c.ex
  exact pe_make0 M F (hr.mono hk) hg hm b .nil hx hdb
theorem e_meth {pl : Sem Bool} (c : Met X.prog X.w X.K X.mg X.base CX k C m sp) (hr : Room j X.A) (hk : k ≤ j) (hx : Passes CX X E) (he : PE X o ta) (ha : PA X (e :: es) t)
    (h1 : starEach (e :: es) X.env = (false, eval e X.env) :: starEach es X.env := by rfl) (h2 : (backTo pos (starEach es X.env)).any (·.1) = false := by rfl)
    (h3 : eval (.Call (.Attribute o m apos) (e :: es) [] pos) X.env = (do let ov ← eval o X.env; standAt apos.atName; let (f, first) ← holding [ov] (getMethod ov m pl)
                                                                          callWith pos f first (backTo pos (starEach (e :: es) X.env)) (backToKw pos (keywordEach [] X.env))) := by rfl) :
    PE X (.Call (.Attribute o m apos) (e :: es) [] pos) (tMeth C m sp [] E ta t) := by
  obtain ⟨f, fd, ps, hc, hm, F, b⟩ := c.ex
  exact pe_meth (pl := pl) he hc hm F (hr.mono hk) b .nil hx ha h1 h2 h3
theorem e_meth0 {pl : Sem Bool} (c : Met X.prog X.w X.K X.mg X.base CX k C m sp) (hr : Room j X.A) (hk : k ≤ j) (hx : Passes CX X E) (he : PE X o ta)
    (h3 : eval (.Call (.Attribute o m apos) [] [] pos) X.env = (do let ov ← eval o X.env; standAt apos.atName; let (f, first) ← holding [ov] (getMethod ov m pl)
                                                                   callWith pos f first (backTo pos (starEach [] X.env)) (backToKw pos (keywordEach [] X.env))) := by rfl) :
    PE X (.Call (.Attribute o m apos) [] [] pos) (tMeth C m sp [] E ta tNil) := by
  obtain ⟨f, fd, ps, hc, hm, F, b⟩ := c.ex
  exact pe_meth0 (pl := pl) he hc hm F (hr.mono hk) b .nil hx h3
end
end Hm

/-! F3: readings, one lemma a head. -/
namespace Hm
open PySem L2

/-! ### heaps -/
/-- what stood stands, but for the cells of M -/
def Keep (M : Addr → Prop) (H H' : Hp) : Prop := ∀ a o, ¬ M a → H a = some o → H' a = some o
abbrev Nil : Addr → Prop := fun _ => False
theorem Keep.refl {M : Addr → Prop} {H : Hp} : Keep M H H := fun _ _ _ h => h
theorem Keep.trans {M : Addr → Prop} {H H1 H2 : Hp} (a : Keep M H H1) (b : Keep M H1 H2) : Keep M H H2 := fun c o n h => b c o n (a c o n h)
theorem Keep.mono {M N : Addr → Prop} {H H' : Hp} (k : Keep M H H') (s : ∀ a, M a → N a) : Keep N H H' := fun a o n h => k a o (fun z => n (s a z)) h
theorem Keep.weak {M : Addr → Prop} {H H' : Hp} (k : Keep Nil H H') : Keep M H H' := k.mono fun _ z => z.elim
theorem Keep.new {M : Addr → Prop} {H H' : Hp} {p : Addr} {o : HO} (k : Keep M H H') (hp : H' p = none) : Keep M H (upd H' p o) := fun a u n h => by
  rw [upd_ne (ne_of_none (k a u n h) hp)]; exact k a u n h
theorem Keep.alloc {M : Addr → Prop} {H : Hp} {p : Addr} {o : HO} (hp : H p = none) : Keep M H (upd H p o) := Keep.refl.new hp
theorem Keep.set {M : Addr → Prop} {H H' : Hp} {p : Addr} {o : HO} (k : Keep M H H') (hp : M p) : Keep M H (upd H' p o) := fun a u n h => by
  rw [upd_ne (fun z => n (by rw [z]; exact hp))]; exact k a u n h
/-- a cell that was new at the start may be forgotten -/
theorem Keep.hide {M : Addr → Prop} {H H' : Hp} {l : Addr} (k : Keep (fun a => M a ∨ a = l) H H') (hl : H l = none) : Keep M H H' := fun a o n h =>
  k a o (fun z => z.elim n fun e => by rw [e, hl] at h; cases h) h
theorem Keep.setN {M : Addr → Prop} {H H' : Hp} {p : Addr} {o : HO} (k : Keep M H H') (hp : H p = none) : Keep M H (upd H' p o) := fun a u n h => by
  rw [upd_ne (fun z => by rw [z, hp] at h; cases h)]; exact k a u n h
theorem Keep.get {M : Addr → Prop} {H H' : Hp} {a : Addr} {o : HO} (k : Keep M H H') (n : ¬ M a) (h : H a = some o) : H' a = some o := k a o n h
theorem is_upd {H : Hp} {p a : Addr} {o : HO} {v : Option HO} (e : upd H p o a = v) : upd H p o a = v := e
theorem upd_at {H : Hp} {p : Addr} {o o' : HO} (e : o = o') : upd H p o p = some o' := by rw [upd_same, e]
theorem get_new {H : Hp} {a p : Addr} {o u : HO} (hp : H p = none) (h : H a = some o) : upd H p u a = some o := by rw [upd_ne (ne_of_none h hp)]; exact h
theorem get_set {H : Hp} {a p : Addr} {o u : HO} (n : a ≠ p) (h : H a = some o) : upd H p u a = some o := by rw [upd_ne n]; exact h
theorem get_setK {H : Hp} {a p : Addr} {o u u0 : HO} (hp : H p = some u0) (h : H a = some o) (d : o ≠ u0) : upd H p u a = some o := get_set (ne_of h hp d) h
theorem ne_old {H : Hp} {a p : Addr} {o : HO} (hp : H p = none) (h : H a = some o) : a ≠ p := ne_of_none h hp
theorem ne_new {H : Hp} {a p : Addr} {o : HO} (hp : H p = none) (h : H a = some o) : p ≠ a := (ne_of_none h hp).symm
theorem none_of_upd {H : Hp} {a p : Addr} {o : HO} (h : upd H p o a = none) : H a = none := by
  unfold upd at h; split at h
  · cases h
  · exact h
theorem none_ne {H : Hp} {a p : Addr} {o : HO} (h : upd H p o a = none) : a ≠ p := fun z => by rw [z, upd_same] at h; cases h
theorem none_ne' {H : Hp} {a p : Addr} {o : HO} (h : upd H p o a = none) : p ≠ a := (none_ne h).symm

theorem seq_keep {K : PySem.W.Frag} {H H' : Hp} {a : Addr} {xs : List V} (k : Keep Nil H H') (h : SqL K H a xs) : SqL K H' a xs := Same.seq (fun b o e => k b o (fun z => z) e) h
theorem seq_new {K : PySem.W.Frag} {H : Hp} {a p : Addr} {o : HO} {xs : List V} (hp : H p = none) (h : SqL K H a xs) : SqL K (upd H p o) a xs := seq_keep (Keep.alloc hp) h
theorem keep_none {H H' : Hp} {p : Addr} (k : Keep Nil H H') (h : H' p = none) : H p = none := by
  cases e : H p with
  | none => rfl
  | some o => rw [k p o (fun z => z) e] at h; cases h
section
variable {P : Program} {w : World} {K : PySem.W.Frag} {σ : St} {H : Hp} {Q : VK} {D : Ends} {C : Addr} {E : XK} {sp : Sp} {f m : Str}
variable {t u tb : TS} {te ta td tv : TE} {tt : TT} {tr : TA} {g : TG} {i j : Nat} {v x y : V} {r : R2}

/-! ### constants of the text -/
theorem gint {mg : Str → Option Value} {x : Str} {i : Int} (h : ∃ t, mg x = some (.int i t)) : ∃ u, mg x = some u ∧ RelV (.int i) u := by
  obtain ⟨t, e⟩ := h
  exact ⟨_, e, t, rfl⟩
theorem gstr {mg : Str → Option Value} {x z : Str} (h : ∃ t, mg x = some (.str z t)) : ∃ u, mg x = some u ∧ RelV (.str z) u := by
  obtain ⟨t, e⟩ := h
  exact ⟨_, e, t, rfl⟩
/-! ### statements -/
theorem absQ {S : Hp → Prop} {v : V} (h : S H) (k : ∀ HT, S HT → Q v HT) : Q v H := k H h
theorem absS {S : Hp → Prop} (h : S H) (k : ∀ HT, S HT → t D σ HT) : t D σ H := k H h

theorem absT {S : Hp → Prop} {R : Bool → Hp → Prop} (h : S H) (k : ∀ HT, S HT → tt σ HT R) : tt σ H R := k H h
theorem absE {S : Hp → Prop} (h : S H) (k : ∀ HT, S HT → te σ HT Q) : te σ H Q := k H h
theorem r_seq (h : t { D with nx := u D } σ H) : tSeq t u D σ H := h
theorem r_nx {n b c : L2.St → Hp → Prop} {rt : VK} (h : n σ H) : (Ends.mk n rt b c).nx σ H := h
theorem r_rt {n b c : L2.St → Hp → Prop} {rt : VK} (h : rt v H) : (Ends.mk n rt b c).rt v H := h
theorem r_bk {n b c : L2.St → Hp → Prop} {rt : VK} (h : b σ H) : (Ends.mk n rt b c).bk σ H := h
theorem r_ct {n b c : L2.St → Hp → Prop} {rt : VK} (h : c σ H) : (Ends.mk n rt b c).ct σ H := h
theorem r_next (h : D.nx σ H) : tNext D σ H := h
theorem r_asg (h : te σ H fun x H1 => g x σ H1 D.nx) : tAsg te g D σ H := h
theorem r_gname {Q : St → Hp → Prop} (h : Q (σ.set i (some v)) H) : gName i v σ H Q := h
theorem r_drop (h : te σ H fun _ H1 => D.nx σ H1) : tDrop te D σ H := h
theorem r_ret (h : te σ H D.rt) : tRet te D σ H := h
theorem r_if (h : tt σ H fun b H1 => if b = true then t D σ H1 else u D σ H1) : tIfS tt t u D σ H := h
theorem r_brk (h : D.bk σ H) : tBreak D σ H := h
theorem r_cont (h : D.ct σ H) : tCont D σ H := h
theorem r_par {tas : TA} (h : tas σ H fun vs H1 => ∃ v w, vs = [v, w] ∧ D.nx ((σ.set i (some v)).set j (some w)) H1) : tPar i j tas D σ H := h
theorem r_par2 {v w : V} {R : V → V → Prop} (h : R v w) : ∃ v' w', [v, w] = [v', w'] ∧ R v' w' := ⟨v, w, rfl, h⟩
/-! ### tests -/
def kB (x : V) (R : Bool → Prop) : Prop := ∃ k, x = .bl k ∧ R k
theorem r_test {R : Bool → Hp → Prop} (h : te σ H fun x H' => kB x fun k => R k H') : tTest te σ H R := h
theorem r_kB {b : Bool} {R : Bool → Prop} (h : R b) : kB (.bl b) R := ⟨b, rfl, h⟩
theorem r_and {t1 t2 : TT} {R : Bool → Hp → Prop} (h : t1 σ H fun c H1 => if c = true then t2 σ H1 R else R false H1) : tAnd t1 t2 σ H R := h
theorem r_or {t1 t2 : TT} {R : Bool → Hp → Prop} (h : t1 σ H fun c H1 => if c = true then R true H1 else t2 σ H1 R) : tOr t1 t2 σ H R := h
theorem r_not {t1 : TT} {R : Bool → Hp → Prop} (h : t1 σ H fun c H1 => R (!c) H1) : tNot t1 σ H R := h
theorem r_tru {R : Bool → Hp → Prop} (h : te σ H fun x H' => ∃ k, TruV K x H' k ∧ R k H') : tTru K te σ H R := h
theorem r_tru_bl {b : Bool} {R : Bool → Prop} (h : R b) : ∃ k, TruV K (.bl b) H k ∧ R k := ⟨b, rfl, h⟩
theorem r_ite_tt {A B : Prop} (h : A) : if true = true then A else B := by rw [if_pos rfl]; exact h
theorem r_ite_ff {A B : Prop} (h : B) : if false = true then A else B := by rw [if_neg Bool.false_ne_true]; exact h
theorem r_ite {p A B : Prop} [Decidable p] (h1 : p → A) (h2 : ¬ p → B) : if decide p = true then A else B := by
  by_cases h : p
  · rw [if_pos (decide_eq_true h)]; exact h1 h
  · rw [if_neg (by simp [h])]; exact h2 h
theorem r_iteT' {p A B : Prop} [Decidable p] (c : p) (h : A) : if decide p = true then A else B := by rw [if_pos (decide_eq_true c)]; exact h
theorem r_iteF' {p A B : Prop} [Decidable p] (c : ¬ p) (h : B) : if decide p = true then A else B := by rw [if_neg (by simp [c])]; exact h
theorem r_iteNT' {p A B : Prop} [Decidable p] (c : ¬ p) (h : A) : if (!decide p) = true then A else B := by rw [if_pos (by simp [c])]; exact h
theorem r_iteNF' {p A B : Prop} [Decidable p] (c : p) (h : B) : if (!decide p) = true then A else B := by rw [if_neg (by simp [c])]; exact h
theorem r_ite_nt {A B : Prop} (h : B) : if (!true) = true then A else B := by rw [if_neg (by simp)]; exact h
theorem r_ite_nf {A B : Prop} (h : A) : if (!false) = true then A else B := by rw [if_pos (by simp)]; exact h
theorem r_iteN {p A B : Prop} [Decidable p] (h1 : ¬ p → A) (h2 : p → B) : if (!decide p) = true then A else B := by
  by_cases h : p
  · rw [if_neg (by simp [h])]; exact h2 h
  · rw [if_pos (by simp [h])]; exact h1 h
theorem r_iteB {b : Bool} {A B : Prop} (h1 : b = true → A) (h2 : b = false → B) : if b = true then A else B := by
  cases b
  · exact r_ite_ff (h2 rfl)
  · exact r_ite_tt (h1 rfl)
theorem r_iteNB {b : Bool} {A B : Prop} (h1 : b = false → A) (h2 : b = true → B) : if (!b) = true then A else B := by
  cases b
  · exact r_ite_tt (h1 rfl)
  · exact r_ite_ff (h2 rfl)
theorem r_ite_if {b : Bool} {A B : Prop} (hb : b = true) (h : A) : if b = true then A else B := by rw [if_pos hb]; exact h
theorem r_ite_else {b : Bool} {A B : Prop} (hb : b = false) (h : B) : if b = true then A else B := by rw [hb, if_neg Bool.false_ne_true]; exact h
/-! ### values -/
theorem r_var (h : σ[i]? = some (some v)) (k : Q v H) : tVar i σ H Q := ⟨v, h, k⟩
theorem r_c (k : Q v H) : tC v σ H Q := k
theorem r_op (k : ta σ H fun x H1 => te σ H1 fun y H2 => r x y H2 Q) : tOp r ta te σ H Q := k
theorem r_un {q : V → Hp → VK → Prop} (k : ta σ H fun x H1 => q x H1 Q) : tUn q ta σ H Q := k
theorem r_rU {gI : Int → V} {z : Int} (k : Q (gI z) H) : rU gI (.int z) H Q := ⟨z, rfl, k⟩
theorem r_nil {R : List V → Hp → Prop} (k : R [] H) : tNil σ H R := k
theorem r_cons {R : List V → Hp → Prop} (k : te σ H fun x H1 => tr σ H1 fun xs H2 => R (x :: xs) H2) : tCons te tr σ H R := k
theorem r_cb {q : List V → Hp → VK → Prop} (k : tr σ H fun vs H1 => q vs H1 Q) : tCB q tr σ H Q := k
theorem r_call (k : tr σ H fun vs H1 => sp vs H1 Q E) : tCall sp [] E tr σ H Q := by
  have e : (fun vs H1 => sp (vs ++ []) H1 Q E) = fun vs H1 => sp vs H1 Q E := by funext vs H1; rw [List.append_nil]
  show tr σ H fun vs H1 => sp (vs ++ []) H1 Q E
  rw [e]; exact k
def kMeth (C : Addr) (m : Str) (sp : Sp) (E : XK) (tr : TA) (σ : St) (x : V) (H : Hp) (Q : VK) : Prop := ∃ a dx fs, x = .ref a ∧ H a = some (.ins C dx fs) ∧ fs.lookup m = none ∧ tr σ H fun vs H2 => sp (x :: vs) H2 Q E
theorem r_meth (k : ta σ H fun x H1 => kMeth C m sp E tr σ x H1 Q) : tMeth C m sp [] E ta tr σ H Q := by
  have e : ∀ x, (fun vs H1 => sp (x :: (vs ++ [])) H1 Q E) = fun vs H1 => sp (x :: vs) H1 Q E := fun x => by funext vs H1; rw [List.append_nil]
  show ta σ H fun x H1 => ∃ a dx fs, x = .ref a ∧ H1 a = some (.ins C dx fs) ∧ fs.lookup m = none ∧ tr σ H1 fun vs H2 => sp (x :: (vs ++ [])) H2 Q E
  simp only [e]; exact k
theorem r_kmeth {a dx : Addr} {fs : List (Str × V)} (h : H a = some (.ins C dx fs)) (l : fs.lookup m = none) (k : tr σ H fun vs H2 => sp (.ref a :: vs) H2 Q E) : kMeth C m sp E tr σ (.ref a) H Q := ⟨a, dx, fs, rfl, h, l, k⟩
theorem r_make (k : tr σ H fun vs H1 => ∀ x dx, H1 x = none → H1 dx = none → dx ≠ x → sp (.ref x :: vs) (upd (upd H1 dx (.own x)) x (.ins C dx [])) (fun v H2 => v = .non ∧ Q (.ref x) H2) E) : tMake C sp [] E tr σ H Q := by
  have e : ∀ (x : Addr) (S : VK), (fun vs H1 => sp (.ref x :: (vs ++ [])) H1 S E) = fun vs H1 => sp (.ref x :: vs) H1 S E := fun x S => by funext vs H1; rw [List.append_nil]
  show tr σ H fun vs H1 => ∀ x dx, H1 x = none → H1 dx = none → dx ≠ x → sp (.ref x :: (vs ++ [])) (upd (upd H1 dx (.own x)) x (.ins C dx [])) (fun v H2 => v = .non ∧ Q (.ref x) H2) E
  simp only [List.append_nil]; exact k
def kFld (K : PySem.W.Frag) (f : Str) (x : V) (H : Hp) (Q : VK) : Prop := ∃ a C dx fs v, x = .ref a ∧ H a = some (.ins C dx fs) ∧ Cls K C ∧ NoAttr K C f ∧ fs.lookup f = some v ∧ Q v H
theorem r_fld (k : ta σ H fun x H1 => kFld K f x H1 Q) : tFld K ta f σ H Q := k
theorem r_kfld {a dx : Addr} {fs : List (Str × V)} (h : H a = some (.ins C dx fs)) (c : Cls K C) (n : NoAttr K C f) (l : fs.lookup f = some v) (k : Q v H) : kFld K f (.ref a) H Q := ⟨a, C, dx, fs, v, rfl, h, c, n, l, k⟩
def kSFld (K : PySem.W.Frag) (f : Str) (x y : V) (H : Hp) (R : Hp → Prop) : Prop := ∃ a C dx fs, x = .ref a ∧ H a = some (.ins C dx fs) ∧ Cls K C ∧ NoAttr K C f ∧ fs.length < 1000 ∧ R (upd H a (.ins C dx (putF f y fs)))
theorem r_sfld (k : tv σ H fun y H1 => ta σ H1 fun x H2 => kSFld K f x y H2 fun H3 => D.nx σ H3) : sFld K ta tv f D σ H := k
theorem r_ksfld {a dx : Addr} {fs : List (Str × V)} {R : Hp → Prop} (h : H a = some (.ins C dx fs)) (c : Cls K C) (n : NoAttr K C f) (l : fs.length < 1000) (k : R (upd H a (.ins C dx (putF f y fs)))) : kSFld K f (.ref a) y H R := ⟨a, C, dx, fs, rfl, h, c, n, l, k⟩
def kTup (xs : List V) (H : Hp) (Q : VK) : Prop := xs.length ≤ sizeLine ∧ ∀ p, H p = none → Q (.ref p) (upd H p (.tup xs))
def kLst (xs : List V) (H : Hp) (Q : VK) : Prop := xs.length ≤ sizeLine ∧ ∀ p, H p = none → Q (.ref p) (upd H p (.lst xs))
theorem r_tup (k : tr σ H fun xs H1 => kTup xs H1 Q) : tTup tr σ H Q := k
theorem r_lst (k : tr σ H fun xs H1 => kLst xs H1 Q) : tLst tr σ H Q := k
theorem few {n : Nat} (h : n ≤ 100) : n ≤ sizeLine := by rw [sizeLine_eq]; omega
theorem few1 {n : Nat} (h : n ≤ 100000) : n < sizeLine := by rw [sizeLine_eq]; omega
theorem few2 {n : Nat} (h : n ≤ 100000) : n ≤ sizeLine := by rw [sizeLine_eq]; omega
theorem r_ktup {xs : List V} (l : xs.length ≤ 100) (k : ∀ p, H p = none → Q (.ref p) (upd H p (.tup xs))) : kTup xs H Q := ⟨few l, k⟩
theorem r_klst {xs : List V} (l : xs.length ≤ 100) (k : ∀ p, H p = none → Q (.ref p) (upd H p (.lst xs))) : kLst xs H Q := ⟨few l, k⟩
theorem r_sl {q : V → Option Int → Option Int → Hp → VK → Prop} {tl th : TO} (k : te σ H fun x H1 => tl σ H1 fun l H2 => th σ H2 fun u H3 => q x l u H3 Q) : tSl q te tl th σ H Q := k
theorem r_nopart {R : Option Int → Hp → Prop} (k : R none H) : tNoPart σ H R := k
def kI (x : V) (R : Int → Prop) : Prop := ∃ i, x = .int i ∧ R i
theorem r_part {R : Option Int → Hp → Prop} (k : te σ H fun x H1 => kI x fun i => R (some i) H1) : tPart te σ H R := k
theorem r_kI {z : Int} {R : Int → Prop} (h : R z) : kI (.int z) R := ⟨z, rfl, h⟩
def kBM (K : PySem.W.Frag) (T : String) (q : V → List V → Hp → VK → Prop) (tr : TA) (σ : St) (x : V) (H : Hp) (Q : VK) : Prop := tyV K T x H ∧ tr σ H fun xs H2 => q x xs H2 Q
theorem r_bm {T : String} {q : V → List V → Hp → VK → Prop} (k : ta σ H fun x H1 => kBM K T q tr σ x H1 Q) : tBM K T q ta tr σ H Q := k
theorem r_bm0 {T : String} {q : V → List V → Hp → VK → Prop} (k : ta σ H fun x H1 => kBM K T q tNil σ x H1 Q) : tBM0 K T q ta σ H Q := k
theorem r_kbm_l {q : V → List V → Hp → VK → Prop} {l : Addr} {xs : List V} (h : H l = some (.lst xs)) (k : tr σ H fun xs H2 => q (.ref l) xs H2 Q) : kBM K "list" q tr σ (.ref l) H Q := ⟨.inl ⟨rfl, xs, SqL.of h⟩, k⟩
theorem r_revL {l : Addr} {xs : List V} (k : te σ H fun x H1 => x = .ref l ∧ H1 l = some (.lst xs) ∧ ∀ p, H1 p = none → Q (.ref p) (upd H1 p (.lst xs.reverse))) (mono : ∀ S S' : VK, (∀ x H, S x H → S' x H) → te σ H S → te σ H S') : tRevL K te σ H Q :=
  mono _ _ (fun x H1 h => ⟨l, xs, h.1, SqL.of h.2.1, h.2.2⟩) k
def kRev (K : PySem.W.Frag) (x : V) (H : Hp) (Q : VK) : Prop := ∃ a xs, x = .ref a ∧ SqL K H a xs ∧ ∀ p, H p = none → Q (.ref p) (upd H p (.lst xs.reverse))
theorem r_rev (k : te σ H fun x H1 => kRev K x H1 Q) : tRevL K te σ H Q := k
theorem r_krev {l : Addr} {xs : List V} (h : H l = some (.lst xs)) (k : ∀ p, H p = none → Q (.ref p) (upd H p (.lst xs.reverse))) : kRev K (.ref l) H Q := ⟨l, xs, rfl, SqL.of h, k⟩
def kNotV (x : V) (R : Bool → Prop) : Prop := kB x R
theorem r_notV (k : ta σ H fun x H1 => kB x fun b => Q (.bl (!b)) H1) : tNotV ta σ H Q := k
theorem r_andV (k : ta σ H fun x H1 => kB x fun b => if b = true then te σ H1 Q else Q (.bl false) H1) : tAndV ta te σ H Q := k
theorem r_orV (k : ta σ H fun x H1 => kB x fun b => if b = true then Q (.bl true) H1 else te σ H1 Q) : tOrV ta te σ H Q := k
theorem r_chain {r' : R2} {tc : TE} (k : ta σ H fun x H1 => te σ H1 fun y H2 => r x y H2 fun z H3 => kB z fun b => if b = true then tc σ H3 fun w' H4 => r' y w' H4 Q else Q (.bl false) H3) : tChain r r' ta te tc σ H Q := k
theorem r_gsub {tsv : TSet} {R : St → Hp → Prop} (k : ta σ H fun o H1 => te σ H1 fun i H2 => tsv o i v H2 fun H3 => R σ H3) : gSub ta te tsv v σ H R := k
/-! ### operators by values -/
variable {a b : Int} {l l' p q : Addr} {xs zs : List V}
theorem v_add (k : Q (.int (a + b)) H) : bAdd K (.int a) (.int b) H Q := .inl ⟨a, b, rfl, rfl, k⟩
theorem v_addL (h1 : H l = some (.lst xs)) (h2 : H l' = some (.lst zs)) (n : xs.length + zs.length ≤ sizeLine) (k : ∀ p, H p = none → Q (.ref p) (upd H p (.lst (xs ++ zs)))) : bAdd K (.ref l) (.ref l') H Q := .inr (.inl ⟨l, l', xs, zs, rfl, rfl, h1, h2, n, k⟩)
theorem v_addS {s z : Str} (n : s.length + z.length ≤ sizeLine) (k : Q (.str (s ++ z)) H) : bAdd K (.str s) (.str z) H Q := .inr (.inr (.inl ⟨s, z, rfl, rfl, n, k⟩))
theorem v_addT (h1 : H l = some (.tup xs)) (h2 : H l' = some (.tup zs)) (n : xs.length + zs.length ≤ sizeLine) (k : ∀ p H', H' p = some (.tup (xs ++ zs)) → Keep Nil H H' → Q (.ref p) H') : bAdd K (.ref l) (.ref l') H Q := by
  refine .inr (.inr (.inr ⟨l, l', xs, zs, rfl, rfl, SqT.of h1, SqT.of h2, n, fun e => ?_, fun _ e => ?_, fun _ _ p hp => k p _ upd_same (Keep.alloc hp)⟩))
  · subst e; exact k l' H (by simpa using h2) Keep.refl
  · subst e; exact k l H (by simpa using h1) Keep.refl
theorem v_sub (k : Q (.int (a - b)) H) : bSub (.int a) (.int b) H Q := ⟨a, b, rfl, rfl, k⟩
theorem v_mul (n : -(2 ^ 64) < a ∧ a < 2 ^ 64) (k : Q (.int (a * b)) H) : bMul (.int a) (.int b) H Q := .inl ⟨a, b, rfl, rfl, .inl n, k⟩
theorem v_mulR (n : -(2 ^ 64) < b ∧ b < 2 ^ 64) (k : Q (.int (a * b)) H) : bMul (.int a) (.int b) H Q := .inl ⟨a, b, rfl, rfl, .inr n, k⟩
theorem v_mulW (n : CMulW a b) (k : Q (.int (a * b)) H) : bMul (.int a) (.int b) H Q := .inr (.inl ⟨a, b, rfl, rfl, n, k⟩)
theorem v_mulL (h : H l = some (.lst xs)) (n : -(2 ^ 63) ≤ a ∧ a < 2 ^ 63 ∧ xs.length * a.toNat ≤ sizeLine) (k : ∀ p, H p = none → Q (.ref p) (upd H p (.lst (List.replicate a.toNat xs).flatten))) : bMul (.ref l) (.int a) H Q :=
  .inr (.inr ⟨l, a, xs, rfl, rfl, h, n.1, n.2.1, n.2.2, k⟩)
theorem v_mod (n : 0 < b) (k : Q (.int (a % b)) H) : bMod (.int a) (.int b) H Q := ⟨a, b, rfl, rfl, n, k⟩
theorem v_div (n : 0 < b ∧ b < 1073741824) (k : Q (.int (a / b)) H) : bDiv (.int a) (.int b) H Q := .inl ⟨a, b, rfl, rfl, n, k⟩
theorem v_divW (n : CDivW a b) (k : Q (.int (a / b)) H) : bDiv (.int a) (.int b) H Q := .inr ⟨a, b, rfl, rfl, n, k⟩
theorem v_pow (n : CPow a b) (k : Q (.int (a ^ b.toNat)) H) : bPow (.int a) (.int b) H Q := ⟨a, b, rfl, rfl, n, k⟩
theorem v_eq (k : Q (.bl (decide (a = b))) H) : cEq K (.int a) (.int b) H Q := .inl ⟨rfl, by
  have e : decide (V.int a = V.int b) = decide (a = b) := by
    by_cases h : a = b
    · subst h; simp
    · rw [decide_eq_false h, decide_eq_false (fun z => h (V.int.inj z))]
  rw [e]; exact k⟩
theorem v_eqS {s z : Str} (k : Q (.bl (decide (s = z))) H) : cEq K (.str s) (.str z) H Q := .inl ⟨rfl, by
  have e : decide (V.str s = V.str z) = decide (s = z) := by
    by_cases h : s = z
    · subst h; simp
    · rw [decide_eq_false h, decide_eq_false (fun z => h (V.str.inj z))]
  rw [e]; exact k⟩
theorem v_ne (k : Q (.bl (!decide (a = b))) H) : cNe K (.int a) (.int b) H Q := .inl ⟨rfl, by
  have e : decide (V.int a = V.int b) = decide (a = b) := by
    by_cases h : a = b
    · subst h; simp
    · rw [decide_eq_false h, decide_eq_false (fun z => h (V.int.inj z))]
  rw [e]; exact k⟩
theorem v_neS {s z : Str} (k : Q (.bl (!decide (s = z))) H) : cNe K (.str s) (.str z) H Q := .inl ⟨rfl, by
  have e : decide (V.str s = V.str z) = decide (s = z) := by
    by_cases h : s = z
    · subst h; simp
    · rw [decide_eq_false h, decide_eq_false (fun z => h (V.str.inj z))]
  rw [e]; exact k⟩
theorem v_eqD {d e : PyData} (h1 : Dp K H x d) (h2 : Dp K H y e) (s1 : SeqAt.shaped d = true) (s2 : SeqAt.shaped e = true) (k : Q (.bl (PyData.eqv d e)) H) : cEq K x y H Q := .inr ⟨d, e, h1, h2, s1, s2, k⟩
theorem v_neD {d e : PyData} (h1 : Dp K H x d) (h2 : Dp K H y e) (s1 : SeqAt.shaped d = true) (s2 : SeqAt.shaped e = true) (k : Q (.bl (!PyData.eqv d e)) H) : cNe K x y H Q := .inr ⟨d, e, h1, h2, s1, s2, k⟩
theorem v_lt (k : Q (.bl (decide (a < b))) H) : cLt K (.int a) (.int b) H Q := .inl ⟨a, b, rfl, rfl, k⟩
theorem v_le (k : Q (.bl (decide (a ≤ b))) H) : cLe (.int a) (.int b) H Q := ⟨a, b, rfl, rfl, k⟩
theorem v_gt (k : Q (.bl (decide (b < a))) H) : cGt (.int a) (.int b) H Q := ⟨a, b, rfl, rfl, k⟩
theorem v_ge (k : Q (.bl (decide (b ≤ a))) H) : cGe (.int a) (.int b) H Q := ⟨a, b, rfl, rfl, k⟩
theorem v_isN (k : Q (.bl (decide (x = .non))) H) : cIs x .non H Q := .inl ⟨rfl, k⟩
theorem v_notN (k : Q (.bl (!decide (x = .non))) H) : cIsNot x .non H Q := .inl ⟨rfl, k⟩
theorem v_isB {c d : Bool} (k : Q (.bl (decide (c = d))) H) : cIs (.bl c) (.bl d) H Q := .inr ⟨c, d, rfl, rfl, k⟩
theorem v_notB {c d : Bool} (k : Q (.bl (!decide (c = d))) H) : cIsNot (.bl c) (.bl d) H Q := .inr ⟨c, d, rfl, rfl, k⟩
theorem v_ixL (h : H l = some (.lst xs)) (n : atI xs a = some v) (k : Q v H) : bIx P w K (.ref l) (.int a) H Q := .inl ⟨l, xs, a, v, rfl, rfl, SqL.of h, n, k⟩
theorem v_ixK (h : SqL K H l xs) (n : atI xs a = some v) (k : Q v H) : bIx P w K (.ref l) (.int a) H Q := .inl ⟨l, xs, a, v, rfl, rfl, h, n, k⟩
theorem v_ixT (h : H l = some (.tup xs)) (n : atI xs a = some v) (k : Q v H) : bIx P w K (.ref l) (.int a) H Q := .inr (.inl ⟨l, xs, a, v, rfl, rfl, SqT.of h, n, k⟩)
theorem v_setL {R : Hp → Prop} {jj : Nat} (h : H l = some (.lst xs)) (n : ixN xs.length a = some jj) (k : R (upd H l (.lst (xs.set jj v)))) : bSet P w (.ref l) (.int a) v H R := .inl ⟨l, xs, a, jj, rfl, rfl, h, n, k⟩
theorem v_lenL (h : H l = some (.lst xs)) (k : Q (.int xs.length) H) : kLen K [.ref l] H Q := .inl ⟨.ref l, xs.length, rfl, .inl ⟨xs, SqL.of h, rfl⟩, k⟩
theorem v_lenK (h : SqL K H l xs) (k : Q (.int xs.length) H) : kLen K [.ref l] H Q := .inl ⟨.ref l, xs.length, rfl, .inl ⟨xs, h, rfl⟩, k⟩
theorem v_lenT (h : H l = some (.tup xs)) (k : Q (.int xs.length) H) : kLen K [.ref l] H Q := .inl ⟨.ref l, xs.length, rfl, .inr ⟨xs, SqT.of h, rfl⟩, k⟩
theorem v_int (k : Q (.int a) H) : kInt [.int a] H Q := .inl ⟨a, rfl, k⟩
theorem v_intB {c : Bool} (k : Q (.int (if c then 1 else 0)) H) : kInt [.bl c] H Q := .inr ⟨c, rfl, k⟩
theorem v_max (k : Q (.int (if b > a then b else a)) H) : kMax K [.int a, .int b] H Q := .inl ⟨a, b, rfl, k⟩
theorem v_min (k : Q (.int (if b < a then b else a)) H) : kMin K [.int a, .int b] H Q := .inl ⟨a, b, rfl, k⟩
theorem v_maxL {ns : List Int} (h : H l = some (.lst (ns.map V.int))) (n : 0 < ns.length) (k : ∀ m, m ∈ ns → (∀ y, y ∈ ns → y ≤ m) → Q (.int m) H) : kMax K [.ref l] H Q := .inr ⟨l, ns, rfl, SqL.of h, n, k⟩
theorem v_abs (k : Q (.int (if a < 0 then -a else a)) H) : kAbs [.int a] H Q := ⟨a, rfl, k⟩
theorem v_listL (h : H l = some (.lst xs)) (k : ∀ p, H p = none → Q (.ref p) (upd H p (.lst xs))) : kList K [.ref l] H Q := .inl ⟨l, xs, rfl, .inl (SqL.of h), k⟩
theorem v_listT (h : H l = some (.tup xs)) (k : ∀ p, H p = none → Q (.ref p) (upd H p (.lst xs))) : kList K [.ref l] H Q := .inl ⟨l, xs, rfl, .inr (SqT.of h), k⟩
theorem v_tupleL (h : H l = some (.lst xs)) (k : ∀ p, H p = none → Q (.ref p) (upd H p (.tup xs))) : kTuple K [.ref l] H Q := ⟨l, xs, rfl, .inl ⟨SqL.of h, k⟩⟩
theorem v_sortedL {ns : List Int} (h : H l = some (.lst (ns.map V.int))) (k : ∀ (ns' : List Int) (p : Addr), ns'.Perm ns → ns'.Pairwise (· ≤ ·) → H p = none → Q (.ref p) (upd H p (.lst (ns'.map V.int)))) : kSorted K w [.ref l] H Q := .inl ⟨l, ns, rfl, SqL.of h, k⟩
theorem v_sortedS {S : Int → Bool} {n : Nat} (h : H l = some (SetO w l S n)) (k : ∀ (ns : List Int) (p : Addr), ns.Pairwise (· < ·) → (∀ z : Int, z ∈ ns ↔ S z = true) → ns.length = n → H p = none → Q (.ref p) (upd H p (.lst (ns.map V.int)))) : kSorted K w [.ref l] H Q := .inr (.inl ⟨l, S, n, rfl, h, k⟩)
theorem v_sortedT {ns : List Int} (h : H l = some (.tup (ns.map V.int))) (k : ∀ (ns' : List Int) (p : Addr), ns'.Perm ns → ns'.Pairwise (· ≤ ·) → H p = none → Q (.ref p) (upd H p (.lst (ns'.map V.int)))) : kSorted K w [.ref l] H Q := .inr (.inr (.inl ⟨l, ns, rfl, SqT.of h, k⟩))
theorem v_sortedD {kvs : List (L2.Key × V)} {ks : List Int} (h : H l = some (.dK kvs)) (e : kvs.map (·.1) = ks.map Sum.inl) (k : ∀ (ns' : List Int) (p : Addr), ns'.Perm ks → ns'.Pairwise (· ≤ ·) → H p = none → Q (.ref p) (upd H p (.lst (ns'.map V.int)))) : kSorted K w [.ref l] H Q := .inr (.inr (.inr ⟨l, kvs, ks, rfl, h, e, k⟩))
theorem v_set {ns : List Int} (h : H l = some (.lst (ns.map V.int))) (n : ns.length ≤ 4000) (k : ∀ (p : Addr) (c : Nat), H p = none → c ≤ ns.length → Q (.ref p) (upd H p (SetO w p (fun j => decide (j ∈ ns)) c))) : uSetI K w [.ref l] H Q := ⟨l, ns, rfl, SqL.of h, n, k⟩
theorem v_append (h : H l = some (.lst xs)) (n : xs.length < sizeLine) (k : Q .non (upd H l (.lst (xs ++ [v])))) : rAppend (.ref l) [v] H Q := ⟨l, xs, v, rfl, rfl, h, n, k⟩
theorem v_clear (h : H l = some (.lst xs)) (k : Q .non (upd H l (.lst []))) : rClear (.ref l) [] H Q := ⟨l, xs, rfl, rfl, h, k⟩
theorem v_insert (h : H l = some (.lst xs)) (n : xs.length < sizeLine) (z : 0 ≤ a ∧ a < 2 ^ 63) (k : Q .non (upd H l (.lst (xs.take a.toNat ++ [v] ++ xs.drop a.toNat)))) : kInsert (.ref l) [.int a, v] H Q := ⟨l, xs, a, v, rfl, rfl, h, n, z.1, z.2, k⟩
theorem v_slL {lo hi : Option Int} (h : H l = some (.lst xs)) (k : ∀ p, H p = none → Q (.ref p) (upd H p (.lst (cutV xs lo hi)))) : bSl K (.ref l) lo hi H Q := .inl ⟨l, xs, rfl, SqL.of h, k⟩
theorem v_isi {t u : Value} {c : V} {b : Bool} (c1 : ClsV c u) (c2 : TyX K H x t) (e : PySem.W.kitOne K t u = some b) (k : Q (.bl b) H) : rIsi K [x, c] H Q := ⟨x, c, t, u, b, rfl, c1, c2, e, k⟩
theorem v_isiI {n : String} {b : Bool} (e : kitB "int" n = some b) (k : Q (.bl b) H) : rIsi K [.int a, .ty n] H Q := v_isi (.ty n) (.base (.int _)) (kit_ty e) k
theorem v_isiB {n : String} {c b : Bool} (e : kitB "bool" n = some b) (k : Q (.bl b) H) : rIsi K [.bl c, .ty n] H Q := v_isi (.ty n) (.base (.bl _)) (kit_ty e) k
theorem v_isiL {n : String} {b : Bool} (h : H l = some (.lst xs)) (e : kitB "list" n = some b) (k : Q (.bl b) H) : rIsi K [.ref l, .ty n] H Q := v_isi (.ty n) (.base (.lst h)) (kit_ty e) k
theorem v_isiT {n : String} {b : Bool} (h : H l = some (.tup xs)) (e : kitB "tuple" n = some b) (k : Q (.bl b) H) : rIsi K [.ref l, .ty n] H Q := v_isi (.ty n) (.base (.tup h)) (kit_ty e) k
theorem v_isiS {n : String} {s : Str} {b : Bool} (e : kitB "str" n = some b) (k : Q (.bl b) H) : rIsi K [.str s, .ty n] H Q := v_isi (.ty n) (.base (.str _)) (kit_ty e) k
theorem kit_int_int : kitB "int" "int" = some true := by decide +kernel
theorem kit_int_bool : kitB "int" "bool" = some false := by decide +kernel
theorem kit_int_list : kitB "int" "list" = some false := by decide +kernel
theorem kit_int_tuple : kitB "int" "tuple" = some false := by decide +kernel
theorem kit_int_str : kitB "int" "str" = some false := by decide +kernel
theorem kit_bool_int : kitB "bool" "int" = some true := by decide +kernel
theorem kit_bool_bool : kitB "bool" "bool" = some true := by decide +kernel
theorem kit_bool_list : kitB "bool" "list" = some false := by decide +kernel
theorem kit_bool_tuple : kitB "bool" "tuple" = some false := by decide +kernel
theorem kit_bool_str : kitB "bool" "str" = some false := by decide +kernel
theorem kit_list_int : kitB "list" "int" = some false := by decide +kernel
theorem kit_list_bool : kitB "list" "bool" = some false := by decide +kernel
theorem kit_list_list : kitB "list" "list" = some true := by decide +kernel
theorem kit_list_tuple : kitB "list" "tuple" = some false := by decide +kernel
theorem kit_list_str : kitB "list" "str" = some false := by decide +kernel
theorem kit_tuple_int : kitB "tuple" "int" = some false := by decide +kernel
theorem kit_tuple_bool : kitB "tuple" "bool" = some false := by decide +kernel
theorem kit_tuple_list : kitB "tuple" "list" = some false := by decide +kernel
theorem kit_tuple_tuple : kitB "tuple" "tuple" = some true := by decide +kernel
theorem kit_tuple_str : kitB "tuple" "str" = some false := by decide +kernel
theorem kit_str_int : kitB "str" "int" = some false := by decide +kernel
theorem kit_str_bool : kitB "str" "bool" = some false := by decide +kernel
theorem kit_str_list : kitB "str" "list" = some false := by decide +kernel
theorem kit_str_tuple : kitB "str" "tuple" = some false := by decide +kernel
theorem kit_str_str : kitB "str" "str" = some true := by decide +kernel
theorem kit_NoneType_int : kitB "NoneType" "int" = some false := by decide +kernel
theorem kit_NoneType_bool : kitB "NoneType" "bool" = some false := by decide +kernel
theorem kit_NoneType_list : kitB "NoneType" "list" = some false := by decide +kernel
theorem kit_NoneType_tuple : kitB "NoneType" "tuple" = some false := by decide +kernel
theorem kit_NoneType_str : kitB "NoneType" "str" = some false := by decide +kernel
theorem kit_dict_int : kitB "dict" "int" = some false := by decide +kernel
theorem kit_dict_bool : kitB "dict" "bool" = some false := by decide +kernel
theorem kit_dict_list : kitB "dict" "list" = some false := by decide +kernel
theorem kit_dict_tuple : kitB "dict" "tuple" = some false := by decide +kernel
theorem kit_dict_str : kitB "dict" "str" = some false := by decide +kernel
/-! ### loops -/
def kFor (J : It) (g : TG) (tb : TS) (D : Ends) (σ : St) (H : Hp) : Prop := ∃ W : Nat → Nat → St → Hp → Prop, (∃ m, W 0 m σ H) ∧ ∀ i m σ H, W i m σ H →
  (J.stop i H ∧ D.nx σ H) ∨ (J.go i H ∧ ∃ N : St → Hp → Prop, (∀ σ' H', N σ' H' → ∃ m', m' < m ∧ W (i + 1) m' σ' H') ∧ ∀ x H', J.yld i H x H' → g x σ H' fun σ2 H2 => tb { D with nx := N, ct := N, bk := D.nx } σ2 H2)
theorem r_for {wi : TI} (k : wi σ H fun J H1 => kFor J g tb D σ H1) : tFor wi g tb D σ H := k
def kRng1 (vs : List V) (H : Hp) (R : It → Hp → Prop) : Prop := ∃ j : Int, vs = [.int j] ∧ -(2 ^ 62) ≤ j ∧ j < 2 ^ 62 ∧ R (Itr 0 j.toNat) H
theorem r_rng1 {R : It → Hp → Prop} (k : tr σ H fun vs H1 => kRng1 vs H1 R) : iRng1 tr σ H R := k
theorem r_krng1 {R : It → Hp → Prop} (n : -(2 ^ 62) ≤ a ∧ a < 2 ^ 62) (k : R (Itr 0 a.toNat) H) : kRng1 [.int a] H R := ⟨a, rfl, n.1, n.2, k⟩
theorem r_iany {R : It → Hp → Prop} (k : te σ H fun x H1 => kIter K x H1 R) : iAny K te σ H R := k
theorem r_kiterL {R : It → Hp → Prop} (h : H l = some (.lst xs)) (k : R (Itl K l) H) : kIter K (.ref l) H R := .inl ⟨l, rfl, ⟨xs, SqL.of h⟩, k⟩
theorem r_kiterT {R : It → Hp → Prop} (h : H l = some (.tup xs)) (k : R (Itt K l) H) : kIter K (.ref l) H R := .inr (.inl ⟨l, rfl, ⟨xs, SqT.of h⟩, k⟩)
def kLc (J : It) (g : TG) (tt : TT) (te : TE) (vs : List Nat) (σ : St) (H1 : Hp) (Q : VK) : Prop := ∀ D, H1 D = none → ∃ W : Nat → Nat → Hp → Prop, (∃ m, W 0 m (upd H1 D (.lst []))) ∧ ∀ i m H, W i m H →
  (J.stop i H ∧ Q (.ref D) H) ∨ (J.go i H ∧ ∃ Nx : Hp → Prop, (∀ H', Nx H' → ∃ m', m' < m ∧ W (i + 1) m' H') ∧ ∀ x H', J.yld i H x H' → g x (wipe σ vs) H' fun σ2 H2 => wipe σ2 vs = wipe σ vs ∧ tt σ2 H2 fun b H3 =>
    if b = true then te σ2 H3 fun y H4 => ∃ acc, H4 D = some (.lst acc) ∧ acc.length < sizeLine ∧ Nx (upd H4 D (.lst (acc ++ [y]))) else Nx H3)
theorem r_lc {wi : TI} {vs : List Nat} (k : wi σ H fun J H1 => kLc J g tt te vs σ H1 Q) : tLc wi g tt te vs σ H Q := k
def kRg (x : V) (H : Hp) (R : Int → Int → Hp → Prop) : Prop := ∃ n, x = .int n ∧ R 0 n H
theorem r_lstRg1 (k : te σ H fun x H1 => kRg x H1 fun c d H2 => RgOk c d ∧ ∀ q, H2 q = none → Q (.ref q) (upd H2 q (.lst (rgV c d)))) : tLstRg (tRg1 te) σ H Q := k
theorem r_krg {R : Int → Int → Hp → Prop} (k : R 0 a H) : kRg (.int a) H R := ⟨a, rfl, k⟩
theorem absF {J : It} {S : Hp → Prop} (h : S H) (k : ∀ HT, S HT → kFor J g tb D σ HT) : kFor J g tb D σ H := k H h
theorem r_yes {R : Bool → Hp → Prop} (k : R true H) : tYes σ H R := k
theorem r_seqT {n : Nat} {ts : TGs} {R : St → Hp → Prop} (h : H l = some (.tup xs)) (e : xs.length = n) (k : ts xs σ H R) : gSeq K n ts (.ref l) σ H R := .inl ⟨l, xs, rfl, SqT.of h, e, k⟩
theorem r_seqL {n : Nat} {ts : TGs} {R : St → Hp → Prop} (h : H l = some (.lst xs)) (e : xs.length = n) (k : ts xs σ H R) : gSeq K n ts (.ref l) σ H R := .inr ⟨l, xs, rfl, SqL.of h, e, k⟩
theorem r_gcons {ts : TGs} {R : St → Hp → Prop} (k : g v σ H fun σ' H' => ts xs σ' H' R) : gCons g ts (v :: xs) σ H R := ⟨v, xs, rfl, k⟩
theorem r_gnil {R : St → Hp → Prop} (k : R σ H) : gNil [] σ H R := ⟨rfl, k⟩
end
end Hm

/-! F4: a caught error held as a value behind its suite; isinstance of it. -/
namespace Hm
open PySem PySem.Spec PyProof.Rows L2
/-- an error of the class cls at a -/
def ExV (cls : Value) (a : Addr) : HO := .ext fun h => ∃ (oe : Obj) (vs : Array Value), h.get? a = some oe ∧ Zc cls none oe ∧ oe.data = .fields vs
theorem exV_ok {P : Program} {w : World} {H : Hp} {h : Heap} {a : Addr} {cls : Value} {oe : Obj} {vs : Array Value} (e : h.get? a = some oe) (z : Zc cls none oe) (d : oe.data = .fields vs) : ObjOk P w H h a (ExV cls a) :=
  ⟨⟨oe, vs, e, z, d⟩, ⟨oe, e⟩, fun _ _ ⟨o, v, q, r⟩ k => ⟨o, v, k o q, r⟩⟩
section
variable {X : Cx} {pins : List (Addr × Obj)} {σ : L2.St} {H : Hp} {s : Shared}
/-- an object of ours, not told of yet, is told of -/
theorem show_ {a : Addr} {φ : Heap → Prop} (I : Inv X pins σ H s) (ha : H a = none) (h0 : X.s_0.heap.get? a = none) (hL : X.env.locals ≠ a) (hc : ∀ x c, X.env.cells.lookup x = some c → c ≠ a) (hp : ∀ p ∈ X.pn ++ pins, p.1 ≠ a)
    (new : ObjOk X.prog X.w (upd H a (.ext φ)) s.heap a (.ext φ)) : Inv X pins σ (upd H a (.ext φ)) s := by
  have old : ∀ b o, H b = some o → upd H a (.ext φ) b = some o := fun b o e => by rw [upd_ne (ne_of_none e ha)]; exact e
  refine ⟨I.ok, I.os, I.bare, ⟨I.base.keep, I.base.slot, fun b o e n hx => ?_, I.base.there, fun b xs e => old _ _ (I.base.tups b xs e), fun b o u e => old _ _ (I.base.frzs b o u e), fun b ps e => ?_⟩, I.loc, I.cell, ?_, fun x c e => ?_, fun p hpp => ?_, fun b u e => ?_, I.len⟩
  · rw [upd_ne (fun z => by rw [z, h0] at e; cases e)]
    exact I.base.free b o e n hx
  · obtain ⟨more, q⟩ := I.base.tbls b ps e
    exact ⟨more, old _ _ q⟩
  · rw [upd_ne hL]; exact I.free
  · rw [upd_ne (hc x c e)]; exact I.freeC x c e
  · obtain ⟨q1, q2, q3⟩ := I.pin p hpp
    exact ⟨q1, by rw [upd_ne (hp p hpp)]; exact q2, q3⟩
  · by_cases hb : b = a
    · subst hb
      rw [upd_same] at e
      cases e
      exact new
    · rw [upd_ne hb] at e
      exact (I.hok b u e).stay (fun _ _ _ q => q) (fun c q => old _ _ q) fun c xs q => old _ _ q
end
/-- what a clause «except c as n» wishes, the error kept: slot i is n's -/
def wVal (K : PySem.W.Frag) (c : Value) (i : Nat) (ts : Addr → Value → TS) (Wout : WX) (D : Ends) : WX := fun cls d σ H =>
  d = none ∧ ∃ b, PySem.W.exmOne K cls c = some b ∧
    (b = true → ∀ a, H a = none → ts a cls { nx := fun σ' H' => D.nx (σ'.set i none) (upd H' a (ExV cls a)), rt := D.rt, bk := fun _ _ => False, ct := fun _ _ => False } (σ.set i (some (.ref a))) H) ∧ (b = false → Wout cls d σ H)
section
variable {X : Cx} {x n : Str} {c : Value} {i : Nat} {body suite : List Stmt} {b₀ : Stmt} {np pos pos' : Pos} {tb : WX → TS} {ts : Addr → Value → TS} {Wout : WX}
/-- try: body, except x as n: suite; what is caught stays an object that is known -/
theorem ps_try_val (hs : X.stack = X.env :: X.outer) (hf : X.env.frame = some X.env.locals) (hN : X.N.Nodup) (hi : X.N[i]? = some n) (hln : X.env.kindOf n = some .local) (hc : Names X x c) (tk : Takes X Wout) (hex : X.ex = [])
    (hb : ∀ (W : WX) (pn : List (Addr × Obj)) (xe : Value → Shared → Prop), Takes (X.tr pn xe) W → PassesOwn (model X.prog X.w) X.A X.env xe → PSs (X.tr pn xe) body (tb W))
    (hsu : ∀ (a : Addr) (oe : Obj) (cls : Value) (pn : List (Addr × Obj)), PSs (X.suite a ((a, oe) :: pn)) (b₀ :: suite) (ts a cls)) :
    PS X (.Try body [.ExceptHandler (some (.Name x np)) (some n) (b₀ :: suite) pos'] [] [] pos) (fun D σ H => tb (wVal X.K c i ts Wout D) D σ H) := by
  refine ⟨fun pins s σ H D I h => wpAny_Try_except ?_⟩
  have ok := I.ok
  have hfr : X.A.frames = some (X.env :: X.outer) := by rw [ok.frames, hs]
  have run := (hb (wVal X.K c i ts Wout D) (X.pn ++ pins) (fun e s₁ => wpAny (model X.prog X.w) X.A (noteFrame e X.env) (fun _ s₂ => wpAny (model X.prog X.w) X.A (setFlight e none)
    (fun _ s₃ => wpAny (model X.prog X.w) X.A (handleBy e X.env [.ExceptHandler (some (.Name x np)) (some n) (b₀ :: suite) pos']) (SP X pins D) X.xe s₃) X.xe s₂) X.xe s₁) ?_ PassesOwn.looking).run [] s σ H D (I.toTry _) h
  · refine wpAny_mono run (fun f s1 hsp => ?_) fun _ _ z => z
    cases f with
    | next => obtain ⟨σ', H', J', q⟩ := hsp; exact wpAny_execs_nil ⟨σ', H', J'.ofTry ok, q⟩
    | brk => obtain ⟨σ', H', J', q⟩ := hsp; exact ⟨σ', H', J'.ofTry ok, q⟩
    | cont => obtain ⟨σ', H', J', q⟩ := hsp; exact ⟨σ', H', J'.ofTry ok, q⟩
    | ret u => obtain ⟨v, σ', H', J', r, q⟩ := hsp; exact ⟨v, σ', H', J'.ofTry ok, r, q⟩
  rintro u s' ⟨a, B, sI, pins', σ', H', cls, d, rfl, J', nb, up, sky, na, os, ag, rfl, b, hb1, hyes, hno⟩
  have J : Inv X pins σ' H' sI := J'.ofTry ok
  have air : Sky B (X.env :: X.outer) a (Zc cls none) X.env.locals s'.heap := by rw [← hs]; exact sky
  show wpAny (model X.prog X.w) X.A (noteFrame (.ref a) X.env) _ _ _
  refine Sky.land Zc.steady hfr hf air fun h3 fl3 up3 => ?_
  have J3 : Inv X pins σ' H' { s' with heap := h3 } := J.landed nb fl3.1 (up.trans up3) os ag
  obtain ⟨oe3, vs3, he3, hz3, hd3⟩ := fl3.there
  have aside : a ∉ frs (X.env :: X.outer) := fun hm => by
    obtain ⟨_, o', e', hnf⟩ := fl3.2.2.1.mem hm
    rw [he3] at e'; cases e'
    exact hnf _ hd3
  have gI : sI.heap.get? a = none := by
    cases e : sI.heap.get? a with
    | none => rfl
    | some o =>
      have q := nb a o e (by show a ∉ frs X.stack; rw [hs]; exact aside)
      rw [fl3.2.1] at q; cases q
  have nL : a ≠ X.env.locals := fun z => aside (List.mem_filterMap.mpr ⟨X.env, List.mem_cons_self, by rw [hf, z]⟩)
  have nF : a ∉ X.fs := fun hm => by
    obtain ⟨e, he, q⟩ := List.mem_filterMap.mp hm
    exact aside (List.mem_filterMap.mpr ⟨e, List.mem_cons_of_mem _ he, q⟩)
  have h00 : X.s_0.heap.get? a = none := by
    cases e : X.s_0.heap.get? a with
    | none => rfl
    | some o =>
      obtain ⟨o', q⟩ := J.base.there a o e (by rw [hex]; exact List.not_mem_nil)
      rw [gI] at q; cases q
  have noCell : ∀ y k, X.env.cells.lookup y = some k → k ≠ a := fun y k e z => by
    obtain ⟨v, o, q, _⟩ := J.cell y k e
    rw [z, gI] at q; cases q
  have noPin : ∀ p ∈ X.pn ++ pins, p.1 ≠ a := fun p hp z => by
    have q := (J.pin p hp).1
    rw [z, gI] at q; cases q
  have S3 := J3.suite he3 hd3 na nL nF
  refine wpAny_handleBy_cons (codeAny_handlers_test ?_) (by intro q; cases q)
  have LT : PySem.W.Looks (model X.prog X.w) h3 (typeOf (.ref a)) cls := fun A Q E s k q => wpAny_typeOf_ref (k _ _ he3) (by rw [hz3.1]; exact q)
  have LM := PySem.W.exm_one (M := model X.prog X.w) (J3.kIn) LT hb1
  have test : ∀ {Q : Value → Shared → Prop} {E : Value → Shared → Prop}, Q c { s' with heap := h3 } → wpAny (model X.prog X.w) (X.A.mark (some (.ref a))) (eval (.Name x np) X.env) Q E { s' with heap := h3 } := fun {Q E} q => by
    obtain ⟨hg, hdbg, hm | ⟨hm, hv, hnn⟩⟩ := hc
    · exact ld_glob (X := X.suite a ((a, oe3) :: (X.pn ++ pins))) S3 hg hm q hdbg
    · exact ld_blt (X := X.suite a ((a, oe3) :: (X.pn ++ pins))) S3 hg hm hv q hnn hdbg
  refine test (LM.here ?_)
  cases b with
  | false =>
    show wpAny _ X.A (handleBy (.ref a) X.env []) _ _ _
    refine wpAny_handleBy_nil ?_
    obtain ⟨k1, k2, k3, oe, vs, T, oT, ts', he, hz, hd, h1, hr⟩ := id fl3
    unfold PySem.passOn
    refine wpAny_bind (wpAny_field he hd h1 ?_)
    rw [if_neg (show ¬ ((Value.ref T == Value.none) = true) from by simp)]
    have fin : wpAny (model X.prog X.w) X.A (setFlight (.ref a) X.env.frame) (fun _ s4 => wpAny (model X.prog X.w) X.A (throw (.ref a) : Sem Flow) (SP X pins D) X.xe s4) X.xe { s' with heap := h3 } := by
      rw [hf]
      refine HandSPX.setFlight_upZ fl3 fun h4 hh4 up4 => wpAny_throw (tk _ _ ?_)
      exact ⟨a, B, sI, pins, σ', H', cls, none, rfl, J, nb, (up.trans up3).trans up4, .inr (.inr (by rw [hs]; exact hh4)), na, os, ag, hno rfl⟩
    first
      | exact wpAny_bind (wpAny_pure (wpAny_bind fin))
      | exact wpAny_bind fin
  | true =>
    refine codeAny_handlers_suite_as (HandSPX.lands_againZ fl3 fun h4 fl4 up4 => ?_)
    have J4 : Inv X pins σ' H' { s' with heap := h4 } := J.landed nb fl4.1 ((up.trans up3).trans up4) os ag
    obtain ⟨oe4, vs4, he4, hz4, hd4⟩ := fl4.there
    have S4 := J4.suite he4 hd4 na nL nF
    refine store_ok (X := X.suite a ((a, oe4) :: (X.pn ++ pins))) (v := .ref a) S4 hN hi (.inl hln) rfl (fun s5 S5 => ?_) (.inr hln)
    refine wpAny_mono ((hsu a oe4 cls (X.pn ++ pins)).run [] s5 _ H' _ S5 (hyes rfl a na)) (fun f s6 hsp => ?_) (fun _ _ z => False.elim z)
    cases f with
    | next =>
      obtain ⟨σ6, H6, S6, q6⟩ := hsp
      obtain ⟨e6, n6, _⟩ := S6.pin (a, oe4) (List.mem_append_left _ List.mem_cons_self)
      have J6 : Inv X pins σ6 H6 s6 := S6.unsuite ok
      have J7 := show_ (φ := fun h => ∃ (oe : Obj) (vs : Array Value), h.get? a = some oe ∧ Zc cls none oe ∧ oe.data = .fields vs) J6 n6 h00 nL.symm noCell noPin (exV_ok e6 hz4 hd4)
      exact gone_ok J7 hN hi hln fun s7 J8 => ⟨_, _, J8, q6⟩
    | brk => obtain ⟨σ6, H6, S6, q6⟩ := hsp; exact q6.elim
    | cont => obtain ⟨σ6, H6, S6, q6⟩ := hsp; exact q6.elim
    | ret u =>
      obtain ⟨v6, σ6, H6, S6, r6, q6⟩ := hsp
      exact gone_ok (S6.unsuite ok) hN hi hln fun s7 J7 => ⟨_, _, _, J7, r6, q6⟩
end
/-- isinstance(e, C), e an error that is known -/
def uIsV (K : PySem.W.Frag) : List V → Hp → VK → Prop := fun xs H Q => ∃ (a D : Addr) (c : V) (u : Value) (b : Bool), xs = [.ref a, c] ∧ H a = some (ExV (.ref D) a) ∧ ExcC K D ∧ ClsV c u ∧ PySem.W.kitOne K (.ref D) u = some b ∧ Q (.bl b) H
theorem k_isV {X : Cx} : CallR X (.builtin "isinstance") (uIsV X.K) := by
  intro pins s σ H xs us Q I r h
  obtain ⟨a, D, c, u, b, rfl, ha, C, hc, e, q⟩ := h
  obtain ⟨u1, u2, rfl, r1, r2⟩ := vals2 r
  have e2 := hc.eq r2
  subst e2
  cases r1
  obtain ⟨⟨oe, vs, hg, hz, hv⟩, _⟩ := I.hok a _ ha
  have J : PySem.W.InstAt s.heap a oe D none := by
    obtain ⟨oc, od, oda, osl⟩ := oe
    obtain ⟨h1, h2⟩ := hz
    dsimp only at h1 h2 hv
    subst h1 h2 hv
    exact ⟨hg, rfl, rfl, trivial⟩
  exact PySem.W.kia_one (PySem.W.handS_kitx_exc C.hg C.hk C.hs C.hd C.ha C.hn C.ht C.hm) I.kIn J e (fun z => nomatch z) fun tk => ⟨.bl b, H, I.tok tk, rfl, q⟩
/-! ### defs that raise, called within a try -/
section
variable {X : Cx} {k j : Nat} {C : Addr} {x m : Str} {sp : Sp} {p pos apos : Pos} {e o : Expr} {es : List Expr} {ta : TE} {t : TA} {W : WX}
def tMethS (C : Addr) (m : Str) (sp : Sp) (W : WX) (ta : TE) (t : TA) : TE := fun σ H Q => tMeth C m sp [] (fun cls d H => W cls d σ H) ta t σ H Q
theorem r_methS {σ : L2.St} {H : Hp} {Q : VK} (h : tMeth C m sp [] (fun cls d H => W cls d σ H) ta t σ H Q) : tMethS C m sp W ta t σ H Q := h
def tCallW (sp : Sp) (W : WX) (t : TA) : TE := fun σ H Q => tCall sp [] (fun cls d H => W cls d σ H) t σ H Q
theorem r_callW {σ : L2.St} {H : Hp} {Q : VK} (h : tCall sp [] (fun cls d H => W cls d σ H) t σ H Q) : tCallW sp W t σ H Q := h
theorem e_callS (c : Cal X.prog X.w X.K X.mg X.base (L2.CX X.prog X.w) k x sp) (hr : Room j X.A) (hk : k ≤ j) (tk : Takes X W) (hg : Gl X x) (ha : PA X (e :: es) t)
    (hdb : (x == ("__debug__" : Str)) = false := by decide) (he : starEach (e :: es) X.env = (false, eval e X.env) :: starEach es X.env := by rfl) (hpl : (backTo pos (starEach es X.env)).any (·.1) = false := by rfl) :
    PE X (.Call (.Name x p) (e :: es) [] pos) (tCallW sp W t) := by
  obtain ⟨f, fd, ps, F, hm, kp, b⟩ := c.ex
  refine ⟨fun pins s σ H Q I h => ?_⟩
  refine (pe_callS (E := WE W) F (hr.mono hk) hg hm kp b (fun σ => passAt tk σ) ha hdb he hpl).run pins s σ H Q I ?_
  have h' : t σ H fun vs H1 => sp (vs ++ []) H1 Q (fun cls d H => W cls d σ H) := h
  show t σ H fun vs H1 => sp vs H1 Q (fun cls d H => W cls d σ H)
  simpa only [List.append_nil] using h'
theorem e_methS {pl : Sem Bool} (c : Met X.prog X.w X.K X.mg X.base (L2.CX X.prog X.w) k C m sp) (hr : Room j X.A) (hk : k ≤ j) (tk : Takes X W) (he : PE X o ta) (ha : PA X (e :: es) t)
    (h1 : starEach (e :: es) X.env = (false, eval e X.env) :: starEach es X.env := by rfl) (h2 : (backTo pos (starEach es X.env)).any (·.1) = false := by rfl)
    (h3 : eval (.Call (.Attribute o m apos) (e :: es) [] pos) X.env = (do let ov ← eval o X.env; standAt apos.atName; let (f, first) ← holding [ov] (getMethod ov m pl)
                                                                          callWith pos f first (backTo pos (starEach (e :: es) X.env)) (backToKw pos (keywordEach [] X.env))) := by rfl) :
    PE X (.Call (.Attribute o m apos) (e :: es) [] pos) (tMethS C m sp W ta t) := by
  obtain ⟨f, fd, ps, hc, hm, F, b⟩ := c.ex
  refine ⟨fun pins s σ H Q I h => PySem.W.methodCall_KW (pl := pl) (thn (he.run pins s σ H _ I h) fun u s1 ⟨y, H1, I1, rx, a, dx, fs, ey, ea, l, q⟩ => ?_) h3⟩
  subst ey
  obtain rfl : u = Value.ref a := rx
  refine getmeth_ok I1 ea hc hm l (PySem.W.callWith_K (first := [.ref a]) (h₀ := X.base) I.ok.mod.kin hm.kp (thn (ha.run pos pins s1 σ H1 _ I1 q) fun us s2 ⟨vs, H2, I2, r, q2⟩ => ⟨I2.kIn, ?_⟩) h1 h2)
  refine run_fnS (E := WE W) (us := .ref a :: us) (vs := .ref a :: vs) F (hr.mono hk) b (fun _ _ _ e s' I c => tk e s' (XE.of_call I (fun _ _ _ h => h) c)) I2 (.cons rfl r) ?_
  have q' : sp (.ref a :: vs ++ []) H2 Q (fun cls d H => W cls d σ H) := q2
  simpa only [List.append_nil] using q'
end
/-! ### raise -/
def tRaiseC (C : Addr) (W : WX) : TS := fun _ σ H => W (.ref C) none σ H
def tRaiseE (C : Addr) (W : WX) (te : TE) : TS := fun _ σ H => te σ H fun _ H1 => W (.ref C) none σ H1
theorem r_raiseC {C : Addr} {W : WX} {D : Ends} {σ : L2.St} {H : Hp} (h : W (.ref C) none σ H) : tRaiseC C W D σ H := h
theorem r_raiseE {C : Addr} {W : WX} {te : TE} {D : Ends} {σ : L2.St} {H : Hp} (h : te σ H fun _ H1 => W (.ref C) none σ H1) : tRaiseE C W te D σ H := h
/-- what stands of a refusal's class -/
structure XCl (K : PySem.W.Frag) (mg : Str → Option Value) (x : Str) (C : Addr) : Prop where
  g : mg x = some (.ref C)
  x : PySem.W.excIn K C [.type "ValueError", .type "Exception", .type "BaseException", .type "object"] "ValueError.__new__" = true
  k : PySem.W.keepIn K (.ref C) = true
  b : PySem.W.subIn K (.ref C) (.type "BaseException") = some true
  t : PySem.W.typeIn K (.ref C) = some (.type "type")
section
variable {X : Cx} {C : Addr} {x m : Str} {p p2 pos pos' : Pos} {jj : Nat} {e : Expr} {ta : TE} {W : WX}
theorem ps_raiseC (hc : X.calm = true) (tk : Takes X W) (c : XCl X.K X.mg x C) (hg : Gl X x) (hdb : (x == ("__debug__" : Str)) = false := by decide) : PS X (.Raise (some (.Call (.Name x p) [.Constant (.str m) jj p2] [] pos)) none pos') (tRaiseC C W) :=
  ps_raise hc tk (pmk_own PySem.F.excBase_ValueError c.x c.g c.k (raises_own c.b c.t) hg hdb)
theorem ps_raiseE (hc : X.calm = true) (tk : Takes X W) (c : XCl X.K X.mg x C) (hg : Gl X x) (he : PE X e ta) (hs : starEach [e] X.env = (false, eval e X.env) :: starEach [] X.env := by rfl) (hdb : (x == ("__debug__" : Str)) = false := by decide) :
    PS X (.Raise (some (.Call (.Name x p) [e] [] pos)) none pos') (tRaiseE C W ta) :=
  ps_raise hc tk (SkE.pmk_own1 PySem.F.excBase_ValueError c.x c.g c.k (raises_own c.b c.t) hg he hs hdb)
end
/-! ### try -/
def tTryV (K : PySem.W.Frag) (c : Value) (i : Nat) (ts : TS) (tb : WX → TS) : TS := fun D σ H => tb (wVal K c i (fun _ _ => ts) (fun _ _ _ _ => False) D) D σ H
theorem r_tryV {K : PySem.W.Frag} {c : Value} {i : Nat} {ts : TS} {tb : WX → TS} {D : Ends} {σ : L2.St} {H : Hp} (h : tb (wVal K c i (fun _ _ => ts) (fun _ _ _ _ => False) D) D σ H) : tTryV K c i ts tb D σ H := h
theorem w_val {K : PySem.W.Frag} {c cls : Value} {i : Nat} {ts : TS} {D : Ends} {σ : L2.St} {H : Hp} (hm : PySem.W.exmOne K cls c = some true)
    (h : ∀ a, H a = none → ts { nx := fun σ' H' => D.nx (σ'.set i none) (upd H' a (ExV cls a)), rt := D.rt, bk := fun _ _ => False, ct := fun _ _ => False } (σ.set i (some (.ref a))) H) : wVal K c i (fun _ _ => ts) (fun _ _ _ _ => False) D cls none σ H :=
  ⟨rfl, true, hm, fun _ a ha => h a ha, fun z => nomatch z⟩
section
variable {X : Cx} {x n : Str} {c : Value} {i : Nat} {body suite : List Stmt} {b₀ : Stmt} {np pos pos' : Pos} {tb : WX → TS} {ts : TS}
theorem ps_tryV (hs : X.stack = X.env :: X.outer) (hf : X.env.frame = some X.env.locals) (hN : X.N.Nodup) (hi : X.N[i]? = some n) (hln : X.env.kindOf n = some .local) (hc : Names X x c) (hex : X.ex = [])
    (hb : ∀ (W : WX) (pn : List (Addr × Obj)) (xe : Value → Shared → Prop), Takes (X.tr pn xe) W → PassesOwn (model X.prog X.w) X.A X.env xe → PSs (X.tr pn xe) body (tb W))
    (hsu : ∀ (a : Addr) (oe : Obj) (pn : List (Addr × Obj)), PSs (X.suite a ((a, oe) :: pn)) (b₀ :: suite) ts) :
    PS X (.Try body [.ExceptHandler (some (.Name x np)) (some n) (b₀ :: suite) pos'] [] [] pos) (tTryV X.K c i ts tb) :=
  ps_try_val (tb := tb) (ts := fun _ _ => ts) hs hf hN hi hln hc takes0 hex (fun W pn xe tk po => hb W pn xe tk po) fun a oe _ pn => hsu a oe pn
end
theorem v_isiN {K : PySem.W.Frag} {H : Hp} {Q : VK} {n : String} {b : Bool} (e : kitB "NoneType" n = some b) (k : Q (.bl b) H) : rIsi K [.non, .ty n] H Q := v_isi (.ty n) (.base .non) (kit_ty e) k
theorem v_isV {K : PySem.W.Frag} {a D : Addr} {c : V} {u : Value} {b : Bool} {H : Hp} {Q : VK} (h : H a = some (ExV (.ref D) a)) (d : ExcC K D) (hc : ClsV c u) (e : PySem.W.kitOne K (.ref D) u = some b) (q : Q (.bl b) H) : uIsV K [.ref a, c] H Q := ⟨a, D, c, u, b, rfl, h, d, hc, e, q⟩
/-! ### list(d.values()), xs.remove(k) -/
/-- a view of the values of the dict at a -/
def ValO (a p : Addr) : HO := .ext fun h => h.IsValuesView p a
def rDVals : V → List V → Hp → VK → Prop := fun x xs H Q => ∃ (a : Addr) (kvs : List (L2.Key × V)), x = .ref a ∧ xs = [] ∧ H a = some (.dK kvs) ∧ ∀ p, H p = none → Q (.ref p) (upd H p (ValO a p))
def rListV : List V → Hp → VK → Prop := fun xs H Q => ∃ (a p : Addr) (kvs : List (L2.Key × V)), xs = [.ref p] ∧ H p = some (ValO a p) ∧ H a = some (.dK kvs) ∧ ∀ q, H q = none → Q (.ref q) (upd H q (.lst (kvs.map (·.2))))
section
variable {X : Cx}
theorem mt_dvals : MtR X "dict.values" rDVals := by
  intro pins s σ H x xs v us Q I rx r h
  obtain ⟨a, kvs, rfl, rfl, ha, q⟩ := h
  obtain rfl : v = Value.ref a := rx
  cases r
  obtain ⟨_, hsys, vs, rel, dof⟩ := dk_of I.hok ha
  obtain ⟨ep, dat⟩ := dof.dictAt
  obtain ⟨ob, es, ho, ex, hdat, hko, hpr, hnd⟩ := id dat
  refine call_meetsIn F.slot_dict_values ⟨ob, ho, ex.1⟩ F.entry_dict_values (F.args_dict_values_1 _) (meets_dict_values (mixKind X.prog X.w) a hsys) ⟨⟨vs, dof⟩, ?_⟩
  exact ⟨.ref s.heap.objs.size, upd H s.heap.objs.size (ValO a s.heap.objs.size), I.laid (t' := s.toks) (fun b u e => Heap.get?_push_of_some _ e) (Nat.le_refl _) ⟨⟨_, Heap.get?_push_size _ rfl, rfl, rfl⟩, ⟨_, Heap.get?_push_size _ rfl⟩, fun _ _ ⟨o, e, z⟩ k => ⟨o, k o e, z⟩⟩, rfl, q _ (I.hok.fresh (Nat.le_refl _))⟩
theorem k_listV (hc : X.calm = true) : CallR X (.type "list") rListV := by
  intro pins s σ H xs us Q I r h
  obtain ⟨a, p, kvs, rfl, hp, ha, q⟩ := h
  obtain ⟨u, rfl, rx⟩ := vals1 r
  obtain rfl : u = Value.ref p := rx
  obtain ⟨view, _⟩ := I.hok p _ hp
  obtain ⟨z, hsys, vs, rel, dof⟩ := dk_of I.hok ha
  obtain ⟨ep, dat⟩ := dof.dictAt
  have hl : kvs.length = vs.length := KV.length rel
  refine PySem.W.kdl_call (PySem.W.kdl_values (knd := mixKind X.prog X.w) (kvs := vs) (ep := ep)) (I.ok.hd hc) ⟨view, dat⟩ (by rw [← hl]; exact z) fun h' tk acc' c' hkeep hS hacc => ?_
  refine ⟨.ref s.heap.objs.size, upd H s.heap.objs.size (.lst (kvs.map (·.2))), I.laid (t' := tk) hkeep (Nat.le_refl _) (show ObjOk X.prog X.w _ _ _ (.lst (kvs.map (·.2))) from ⟨by rw [List.length_map]; exact z, acc'.toList, c', ?_, by rw [Array.toArray_toList]; exact hS⟩), rfl, q _ (I.hok.fresh (Nat.le_refl _))⟩
  have el : acc'.toList.length = acc'.size := by simp
  refine vals_of_at (by rw [List.length_map, el, hacc.1, hl]) fun j x w h1 h2 => ?_
  obtain ⟨k, hk⟩ := hacc.2 j w (by rw [← Array.getElem?_toList]; exact h2)
  obtain ⟨x', e1, e2⟩ := KV.at' rel hk
  rw [List.getElem?_map, e1] at h1
  cases h1
  exact e2
end
theorem v_dvals {a : Addr} {kvs : List (L2.Key × V)} {H : Hp} {Q : VK} (h : H a = some (.dK kvs)) (k : ∀ p, H p = none → Q (.ref p) (upd H p (ValO a p))) : rDVals (.ref a) [] H Q := ⟨a, kvs, rfl, rfl, h, k⟩
theorem r_dvals {K : PySem.W.Frag} {a : Addr} {kvs : List (L2.Key × V)} {H : Hp} {Q : VK} {σ : L2.St} (h : H a = some (.dK kvs)) (k : ∀ p, H p = none → Q (.ref p) (upd H p (ValO a p))) : kBM K "dict" rDVals tNil σ (.ref a) H Q := ⟨.inr (.inr (.inl ⟨rfl, .inl ⟨kvs, h⟩⟩)), v_dvals h k⟩
theorem v_listV {a p : Addr} {kvs : List (L2.Key × V)} {H : Hp} {Q : VK} (h : H p = some (ValO a p)) (h2 : H a = some (.dK kvs)) (k : ∀ q, H q = none → Q (.ref q) (upd H q (.lst (kvs.map (·.2))))) : rListV [.ref p] H Q := ⟨a, p, kvs, rfl, h, h2, k⟩
theorem r_remX {K : PySem.W.Frag} {W : WX} {to te : TE} {σ : L2.St} {H : Hp} {Q : VK} (h : to σ H fun x H1 => tyV K "list" x H1 ∧ te σ H1 fun y H2 => ∃ (l : Addr) (ns : List Int) (k : Int), x = .ref l ∧ y = .int k ∧ H2 l = some (.lst (ns.map V.int)) ∧
  (k ∈ ns → Q .non (upd H2 l (.lst ((ns.erase k).map V.int)))) ∧ (k ∉ ns → ∀ d, W (.type "ValueError") d σ H2)) : tRemX K W to te σ H Q := h
end Hm

/-! F5: values. Rp W H v d: v is the data d, all its objects outside of W. -/
namespace Hm
open PySem PySem.Spec PyProof.Rows L2
mutual
inductive Rp (W : Addr → Prop) (H : Hp) : V → PyData → Prop
  | non : Rp W H .non .none
  | bl (b : Bool) : Rp W H (.bl b) (.bool b)
  | int (i : Int) : Rp W H (.int i) (.int i)
  | str (x : Str) : Rp W H (.str x) (.str x)
  | lst {a : Addr} {xs : List V} {ds : List PyData} : H a = some (.lst xs) → ¬ W a → RpA W H xs ds → Rp W H (.ref a) (.list ds)
  | tup {a : Addr} {xs : List V} {ds : List PyData} : H a = some (.tup xs) → ¬ W a → RpA W H xs ds → Rp W H (.ref a) (.tuple ds)
inductive RpA (W : Addr → Prop) (H : Hp) : List V → List PyData → Prop
  | nil : RpA W H [] []
  | cons {v : V} {vs : List V} {d : PyData} {ds : List PyData} : Rp W H v d → RpA W H vs ds → RpA W H (v :: vs) (d :: ds)
end
section
variable {W W' : Addr → Prop} {H H' : Hp} {K : PySem.W.Frag}
mutual
theorem Rp.move (f : ∀ a o, ¬ W a → H a = some o → H' a = some o ∧ ¬ W' a) : ∀ (d : PyData) (v : V), Rp W H v d → Rp W' H' v d
  | .none, _, h => by cases h; exact .non
  | .bool b, _, h => by cases h; exact .bl b
  | .int i, _, h => by cases h; exact .int i
  | .str x, _, h => by cases h; exact .str x
  | .list ds, _, h => by
    cases h with
    | lst e n r => exact .lst (f _ _ n e).1 (f _ _ n e).2 (RpA.move f ds _ r)
  | .tuple ds, _, h => by
    cases h with
    | tup e n r => exact .tup (f _ _ n e).1 (f _ _ n e).2 (RpA.move f ds _ r)
  | .dict _, _, h => by cases h
theorem RpA.move (f : ∀ a o, ¬ W a → H a = some o → H' a = some o ∧ ¬ W' a) : ∀ (ds : List PyData) (vs : List V), RpA W H vs ds → RpA W' H' vs ds
  | [], _, h => by cases h; exact .nil
  | d :: ds, _, h => by
    cases h with
    | cons r s => exact .cons (Rp.move f d _ r) (RpA.move f ds _ s)
end
mutual
theorem Rp.dp : ∀ (d : PyData) (v : V), Rp W H v d → Dp K H v d
  | .none, _, h => by cases h; exact .non
  | .bool b, _, h => by cases h; exact .bl b
  | .int i, _, h => by cases h; exact .int i
  | .str x, _, h => by cases h; exact .str x
  | .list ds, _, h => by
    cases h with
    | lst e n r => exact .lst (SqL.of e) (RpA.dp ds _ r)
  | .tuple ds, _, h => by
    cases h with
    | tup e n r => exact .tup (SqT.of e) (RpA.dp ds _ r)
  | .dict _, _, h => by cases h
theorem RpA.dp : ∀ (ds : List PyData) (vs : List V), RpA W H vs ds → DpAll K H vs ds
  | [], _, h => by cases h; exact .nil
  | d :: ds, _, h => by
    cases h with
    | cons r s => exact .cons (Rp.dp d _ r) (RpA.dp ds _ s)
end
theorem Rp.keep {v : V} {d : PyData} (h : Rp W H v d) (k : Keep W H H') : Rp W H' v d := Rp.move (fun a o n e => ⟨k a o n e, n⟩) d v h
theorem RpA.keep {v : List V} {d : List PyData} (h : RpA W H v d) (k : Keep W H H') : RpA W H' v d := RpA.move (fun a o n e => ⟨k a o n e, n⟩) d v h
theorem Rp.same {v : V} {d : PyData} (h : Rp W H v d) (k : Keep Nil H H') : Rp W H' v d := h.keep k.weak
theorem RpA.same {v : List V} {d : List PyData} (h : RpA W H v d) (k : Keep Nil H H') : RpA W H' v d := h.keep k.weak
theorem Rp.sub {v : V} {d : PyData} (h : Rp W H v d) (s : ∀ x, W' x → W x) : Rp W' H v d := Rp.move (fun a o n e => ⟨e, fun z => n (s _ z)⟩) d v h
theorem RpA.sub {v : List V} {d : List PyData} (h : RpA W H v d) (s : ∀ x, W' x → W x) : RpA W' H v d := RpA.move (fun a o n e => ⟨e, fun z => n (s _ z)⟩) d v h
/-- a new cell may be marked as one that changes -/
theorem Rp.own {v : V} {d : PyData} {p : Addr} (h : Rp W H v d) (hp : H p = none) : Rp (fun x => W x ∨ x = p) H v d :=
  Rp.move (fun a o n e => ⟨e, fun z => z.elim n (ne_of_none e hp)⟩) d v h
theorem RpA.own {v : List V} {d : List PyData} {p : Addr} (h : RpA W H v d) (hp : H p = none) : RpA (fun x => W x ∨ x = p) H v d :=
  RpA.move (fun a o n e => ⟨e, fun z => z.elim n (ne_of_none e hp)⟩) d v h
/-- W' is W and cells that are new at H -/
theorem Rp.grow {v : V} {d : PyData} (h : Rp W H v d) (s : ∀ x, W' x → W x ∨ H x = none) : Rp W' H v d :=
  Rp.move (fun a o n e => ⟨e, fun z => (s _ z).elim n fun w => by rw [e] at w; cases w⟩) d v h
theorem RpA.grow {v : List V} {d : List PyData} (h : RpA W H v d) (s : ∀ x, W' x → W x ∨ H x = none) : RpA W' H v d :=
  RpA.move (fun a o n e => ⟨e, fun z => (s _ z).elim n fun w => by rw [e] at w; cases w⟩) d v h
theorem Rp.list_ {v : V} {ds : List PyData} (h : Rp W H v (.list ds)) : ∃ a xs, v = .ref a ∧ H a = some (.lst xs) ∧ ¬ W a ∧ RpA W H xs ds := by
  cases h with
  | lst e n r => exact ⟨_, _, rfl, e, n, r⟩
theorem Rp.tuple_ {v : V} {ds : List PyData} (h : Rp W H v (.tuple ds)) : ∃ a xs, v = .ref a ∧ H a = some (.tup xs) ∧ ¬ W a ∧ RpA W H xs ds := by
  cases h with
  | tup e n r => exact ⟨_, _, rfl, e, n, r⟩
theorem Rp.int_ {v : V} {i : Int} (h : Rp W H v (.int i)) : v = .int i := by cases h; rfl
theorem Rp.str_ {v : V} {i : Str} (h : Rp W H v (.str i)) : v = .str i := by cases h; rfl
theorem Rp.bool_ {v : V} {i : Bool} (h : Rp W H v (.bool i)) : v = .bl i := by cases h; rfl
theorem Rp.none_ {v : V} (h : Rp W H v .none) : v = .non := by cases h; rfl
theorem RpA.nil_ {vs : List V} (h : RpA W H vs []) : vs = [] := by cases h; rfl
theorem RpA.cons_ {vs : List V} {d : PyData} {ds : List PyData} (h : RpA W H vs (d :: ds)) : ∃ v r, vs = v :: r ∧ Rp W H v d ∧ RpA W H r ds := by
  cases h with
  | cons r s => exact ⟨_, _, rfl, r, s⟩
theorem Rp.two {v : V} {d e : PyData} (h : Rp W H v (.tuple [d, e])) : ∃ a x y, v = .ref a ∧ H a = some (.tup [x, y]) ∧ ¬ W a ∧ Rp W H x d ∧ Rp W H y e := by
  obtain ⟨a, xs, rfl, e, n, r⟩ := h.tuple_
  obtain ⟨x, _, rfl, r1, r⟩ := r.cons_
  obtain ⟨y, _, rfl, r2, r⟩ := r.cons_
  cases r.nil_
  exact ⟨a, x, y, rfl, e, n, r1, r2⟩
theorem Rp.mk2 {a : Addr} {x y : V} {d e : PyData} (h : H a = some (.tup [x, y])) (n : ¬ W a) (r1 : Rp W H x d) (r2 : Rp W H y e) : Rp W H (.ref a) (.tuple [d, e]) := .tup h n (.cons r1 (.cons r2 .nil))
theorem RpA.len : ∀ {ds : List PyData} {vs : List V}, RpA W H vs ds → vs.length = ds.length
  | [], _, h => by rw [h.nil_]; rfl
  | d :: ds, _, h => by
    obtain ⟨v, r, rfl, _, h⟩ := h.cons_
    rw [List.length_cons, List.length_cons, h.len]
theorem RpA.at_ : ∀ {ds : List PyData} {vs : List V} {i : Nat} {d : PyData}, RpA W H vs ds → ds[i]? = some d → ∃ v, vs[i]? = some v ∧ Rp W H v d
  | [], _, _, _, _, e => by simp at e
  | d :: ds, _, i, x, h, e => by
    obtain ⟨v, r, rfl, h1, h⟩ := h.cons_
    cases i with
    | zero => simp at e; subst e; exact ⟨v, rfl, h1⟩
    | succ i =>
      obtain ⟨w, e1, e2⟩ := h.at_ (i := i) (by simpa using e)
      exact ⟨w, by simpa using e1, e2⟩
theorem RpA.at' {ds : List PyData} {vs : List V} {i : Nat} {v : V} (h : RpA W H vs ds) (e : vs[i]? = some v) : ∃ d, ds[i]? = some d ∧ Rp W H v d := by
  have hi : i < ds.length := by rw [← h.len]; exact (List.getElem?_eq_some_iff.mp e).1
  obtain ⟨w, e1, e2⟩ := h.at_ (List.getElem?_eq_getElem hi)
  rw [e] at e1; cases e1
  exact ⟨_, List.getElem?_eq_getElem hi, e2⟩
theorem RpA.app : ∀ {ds es : List PyData} {vs us : List V}, RpA W H vs ds → RpA W H us es → RpA W H (vs ++ us) (ds ++ es)
  | [], _, _, _, h, k => by rw [h.nil_]; exact k
  | d :: ds, _, _, _, h, k => by
    obtain ⟨v, r, rfl, h1, h⟩ := h.cons_
    exact .cons h1 (h.app k)
theorem RpA.snoc {ds : List PyData} {vs : List V} {v : V} {d : PyData} (h : RpA W H vs ds) (k : Rp W H v d) : RpA W H (vs ++ [v]) (ds ++ [d]) := h.app (.cons k .nil)
theorem RpA.take : ∀ (n : Nat) {ds : List PyData} {vs : List V}, RpA W H vs ds → RpA W H (vs.take n) (ds.take n)
  | 0, _, _, _ => by simp; exact .nil
  | n + 1, [], _, h => by rw [h.nil_]; simp; exact .nil
  | n + 1, d :: ds, _, h => by
    obtain ⟨v, r, rfl, h1, h⟩ := h.cons_
    exact .cons h1 (h.take n)
theorem RpA.drop : ∀ (n : Nat) {ds : List PyData} {vs : List V}, RpA W H vs ds → RpA W H (vs.drop n) (ds.drop n)
  | 0, _, _, h => h
  | n + 1, [], _, h => by rw [h.nil_]; simp; exact .nil
  | n + 1, d :: ds, _, h => by
    obtain ⟨v, r, rfl, h1, h⟩ := h.cons_
    exact h.drop n
theorem RpA.rev : ∀ {ds : List PyData} {vs : List V}, RpA W H vs ds → RpA W H vs.reverse ds.reverse
  | [], _, h => by rw [h.nil_]; exact .nil
  | d :: ds, _, h => by
    obtain ⟨v, r, rfl, h1, h⟩ := h.cons_
    rw [List.reverse_cons, List.reverse_cons]
    exact h.rev.snoc h1
theorem RpA.ints_ : ∀ {l : List Int} {vs : List V}, RpA W H vs (l.map .int) → vs = l.map V.int
  | [], _, h => h.nil_
  | x :: l, _, h => by
    obtain ⟨v, r, rfl, h1, h⟩ := h.cons_
    rw [h1.int_, h.ints_]; rfl
theorem RpA.ints : ∀ (l : List Int), RpA W H (l.map V.int) (l.map .int)
  | [] => .nil
  | x :: l => .cons (.int x) (RpA.ints l)
theorem RpA.strs_ : ∀ {l : List Str} {vs : List V}, RpA W H vs (l.map .str) → vs = l.map V.str
  | [], _, h => h.nil_
  | x :: l, _, h => by
    obtain ⟨v, r, rfl, h1, h⟩ := h.cons_
    rw [h1.str_, h.strs_]; rfl
theorem RpA.strs : ∀ (l : List Str), RpA W H (l.map V.str) (l.map .str)
  | [] => .nil
  | x :: l => .cons (.str x) (RpA.strs l)
end
/-- data of ints -/
abbrev dI (l : List Int) : PyData := .list (l.map PyData.int)
theorem Rp.ints_ {W : Addr → Prop} {H : Hp} {v : V} {l : List Int} (h : Rp W H v (dI l)) : ∃ a, v = .ref a ∧ H a = some (.lst (l.map V.int)) ∧ ¬ W a := by
  obtain ⟨a, xs, rfl, e, n, r⟩ := h.list_
  rw [r.ints_] at e
  exact ⟨a, rfl, e, n⟩
theorem Rp.ints {W : Addr → Prop} {H : Hp} {a : Addr} {l : List Int} (h : H a = some (.lst (l.map V.int))) (n : ¬ W a) : Rp W H (.ref a) (dI l) := .lst h n (RpA.ints l)
/-! ### data that Python tells apart as we do -/
mutual
def pl : PyData → Bool
  | .none => true
  | .int _ => true
  | .str x => (PyData.str x).canLay0
  | .bool _ => false
  | .dict _ => false
  | .list ds => plA ds
  | .tuple ds => plA ds
def plA : List PyData → Bool
  | [] => true
  | d :: ds => pl d && plA ds
end
mutual
theorem eqv_iff : ∀ (d e : PyData), pl d = true → pl e = true → (PyData.eqv d e = true ↔ d = e)
  | .none, e, _, _ => by cases e <;> simp [PyData.eqv]
  | .int i, e, _, h => by cases e <;> simp [PyData.eqv] <;> simp [pl] at h
  | .str i, e, _, _ => by cases e <;> simp [PyData.eqv]
  | .bool _, _, h, _ => by simp [pl] at h
  | .dict _, _, h, _ => by simp [pl] at h
  | .list ds, e, h, k => by
    cases e <;> simp [PyData.eqv]
    exact eqvA_iff ds _ (by simpa [pl] using h) (by simpa [pl] using k)
  | .tuple ds, e, h, k => by
    cases e <;> simp [PyData.eqv]
    exact eqvA_iff ds _ (by simpa [pl] using h) (by simpa [pl] using k)
theorem eqvA_iff : ∀ (ds es : List PyData), plA ds = true → plA es = true → (PyData.eqvAll ds es = true ↔ ds = es)
  | [], es, _, _ => by cases es <;> simp [PyData.eqvAll]
  | d :: ds, es, h, k => by
    cases es with
    | nil => simp [PyData.eqvAll]
    | cons e es =>
      rw [plA, Bool.and_eq_true] at h k
      simp only [PyData.eqvAll, Bool.and_eq_true, List.cons.injEq]
      rw [eqv_iff d e h.1 k.1, eqvA_iff ds es h.2 k.2]
end
theorem plA_mem : ∀ {ds : List PyData}, plA ds = true ↔ ∀ d ∈ ds, pl d = true
  | [] => by simp [plA]
  | d :: ds => by simp [plA, plA_mem (ds := ds)]
theorem plA_map {α : Type} {f : α → PyData} {l : List α} (h : ∀ x, pl (f x) = true) : plA (l.map f) = true := plA_mem.mpr fun d hd => by
  obtain ⟨x, _, rfl⟩ := List.mem_map.mp hd
  exact h x
open Classical in
theorem eqv_dec {d e : PyData} (h : pl d = true) (k : pl e = true) : PyData.eqv d e = decide (d = e) := by
  by_cases z : d = e
  · rw [decide_eq_true z]; exact (eqv_iff d e h k).mpr z
  · rw [decide_eq_false z]
    cases q : PyData.eqv d e with
    | false => rfl
    | true => exact absurd ((eqv_iff d e h k).mp q) z
theorem eqv_inj {α : Type} [DecidableEq α] {f : α → PyData} (hp : ∀ x, pl (f x) = true) (inj : ∀ x y, f x = f y → x = y) (a b : α) : PyData.eqv (f a) (f b) = decide (a = b) := by
  by_cases z : a = b
  · subst z; rw [decide_eq_true rfl]; exact (eqv_iff _ _ (hp _) (hp _)).mpr rfl
  · rw [decide_eq_false z]
    cases q : PyData.eqv (f a) (f b) with
    | false => rfl
    | true => exact absurd (inj _ _ ((eqv_iff _ _ (hp _) (hp _)).mp q)) z
mutual
theorem lay_pl : ∀ d : PyData, pl d = true → d.canLay0 = true
  | .none, _ => rfl
  | .int _, _ => rfl
  | .str _, h => by simpa [pl] using h
  | .bool _, h => by simp [pl] at h
  | .dict _, h => by simp [pl] at h
  | .list ds, h => by simp only [PyData.canLay0]; exact layA_pl ds (by simpa [pl] using h)
  | .tuple ds, h => by simp only [PyData.canLay0]; exact layA_pl ds (by simpa [pl] using h)
theorem layA_pl : ∀ ds : List PyData, plA ds = true → PyData.canLayAll0 ds = true
  | [], _ => by simp [PyData.canLayAll0]
  | d :: ds, h => by
    rw [plA, Bool.and_eq_true] at h
    simp [PyData.canLayAll0, lay_pl d h.1, layA_pl ds h.2]
end
theorem sh_pl {d : PyData} (h : pl d = true) (k : d.depth ≤ 64) : SeqAt.shaped d = true := by
  show (d.canLay0 && decide (d.depth ≤ 64)) = true
  rw [Bool.and_eq_true]
  exact ⟨lay_pl d h, decide_eq_true k⟩
theorem depthA_le {n : Nat} : ∀ {ds : List PyData}, (∀ d ∈ ds, d.depth ≤ n) → PyData.depthAll ds ≤ n
  | [], _ => by simp [PyData.depthAll]
  | d :: ds, h => by
    have h1 := h d List.mem_cons_self
    have h2 := depthA_le fun x hx => h x (List.mem_cons_of_mem _ hx)
    simp only [PyData.depthAll]; omega
theorem depth_list {n : Nat} {ds : List PyData} (h : ∀ d ∈ ds, d.depth ≤ n) : (PyData.list ds).depth ≤ n + 1 := by
  have := depthA_le h
  simp only [PyData.depth]; omega
theorem depth_tup {n : Nat} {ds : List PyData} (h : ∀ d ∈ ds, d.depth ≤ n) : (PyData.tuple ds).depth ≤ n + 1 := by
  have := depthA_le h
  simp only [PyData.depth]; omega
theorem depth_ints (l : List Int) : (PyData.list (l.map PyData.int)).depth ≤ 64 := by
  have := depth_list (n := 1) (ds := l.map PyData.int) fun d hd => by
    obtain ⟨x, _, rfl⟩ := List.mem_map.mp hd
    simp [PyData.depth]
  omega
theorem pl_ints (l : List Int) : pl (.list (l.map PyData.int)) = true := by
  show plA _ = true
  exact plA_map fun x => rfl
theorem sh_ints (l : List Int) : SeqAt.shaped (.list (l.map PyData.int)) = true := sh_pl (pl_ints l) (depth_ints l)
/-! ### what is new is none of what changes -/
def Al (W : Addr → Prop) (H : Hp) : Prop := ∀ x, H x = none → ¬ W x
theorem Al.same {W : Addr → Prop} {H H' : Hp} (a : Al W H) (k : Keep Nil H H') : Al W H' := fun x hx => a x (keep_none k hx)
theorem Al.nil {H : Hp} : Al Nil H := fun _ _ z => z
theorem Al.or {W V : Addr → Prop} {H : Hp} (a : Al W H) (b : Al V H) : Al (fun x => W x ∨ V x) H := fun x hx z => z.elim (a x hx) (b x hx)
theorem Al.one {W : Addr → Prop} {H : Hp} {p : Addr} {o : HO} (a : Al W H) (h : H p = some o) : Al (fun x => W x ∨ x = p) H := fun x hx z => z.elim (a x hx) fun e => by rw [e, h] at hx; cases hx
section
variable {W : Addr → Prop} {H : Hp} {K : PySem.W.Frag} {P : Program} {w : World} {Q : VK} {x y : V} {d e : PyData}
theorem v_addV {ds es : List PyData} (al : Al W H) (h1 : Rp W H x (.list ds)) (h2 : Rp W H y (.list es)) (few : ds.length + es.length ≤ 100000) (k : ∀ (p : Addr) (H' : Hp), Keep Nil H H' → Rp W H' (.ref p) (.list (ds ++ es)) → Q (.ref p) H') : bAdd K x y H Q := by
  obtain ⟨a, xs, rfl, e1, n1, r1⟩ := h1.list_
  obtain ⟨b, ys, rfl, e2, n2, r2⟩ := h2.list_
  refine v_addL e1 e2 (few2 (by rw [r1.len, r2.len]; exact few)) fun p hp => k p _ (Keep.alloc hp) ?_
  have kk : Keep Nil H (upd H p (.lst (xs ++ ys))) := Keep.alloc hp
  exact .lst upd_same (al p hp) ((r1.same kk).app (r2.same kk))
theorem v_eqV (h1 : Rp W H x d) (h2 : Rp W H y e) (s1 : SeqAt.shaped d = true) (s2 : SeqAt.shaped e = true) (k : Q (.bl (PyData.eqv d e)) H) : cEq K x y H Q := .inr ⟨d, e, Rp.dp _ _ h1, Rp.dp _ _ h2, s1, s2, k⟩
theorem v_neV (h1 : Rp W H x d) (h2 : Rp W H y e) (s1 : SeqAt.shaped d = true) (s2 : SeqAt.shaped e = true) (k : Q (.bl (!PyData.eqv d e)) H) : cNe K x y H Q := .inr ⟨d, e, Rp.dp _ _ h1, Rp.dp _ _ h2, s1, s2, k⟩
theorem v_inV {ds : List PyData} (h1 : Rp W H x d) (h2 : Rp W H y (.list ds)) (s1 : SeqAt.shaped d = true) (s2 : SeqAt.shaped (.list ds) = true) (k : Q (.bl (ds.any fun z => PyData.eqv z d)) H) : cIn P w K x y H Q := .inr (.inl ⟨d, ds, Rp.dp _ _ h1, Rp.dp _ _ h2, s1, s2, k⟩)
theorem v_ninV {ds : List PyData} (h1 : Rp W H x d) (h2 : Rp W H y (.list ds)) (s1 : SeqAt.shaped d = true) (s2 : SeqAt.shaped (.list ds) = true) (k : Q (.bl (!ds.any fun z => PyData.eqv z d)) H) : cNotIn P w K x y H Q := .inr (.inl ⟨d, ds, Rp.dp _ _ h1, Rp.dp _ _ h2, s1, s2, k⟩)
end
/-! ### len(set(..)) -/
def kLenS (w : World) : List V → Hp → VK → Prop := fun xs H Q => ∃ (a : Addr) (S : Int → Bool) (n : Nat), xs = [.ref a] ∧ H a = some (SetO w a S n) ∧ ∀ es : List Int, es.Nodup → (∀ z : Int, S z = true ↔ z ∈ es) → es.length = n → Q (.int n) H
theorem k_lenS {X : Cx} : CallR X (.builtin "len") (kLenS X.w) := by
  intro pins s σ H xs us Q I r h
  obtain ⟨a, S, n, rfl, ha, q⟩ := h
  obtain ⟨o, es, ep, t, ho, hex, hd, good, nd, mem, few, fits, num, _⟩ := setO_get I ha
  rw [Vals.ref1 r]
  have hs : scanBound = 4096 := rfl
  refine call_len_set ho hex hd fits (by omega) ?_
  rw [num]
  exact ⟨.int n, H, (I.tok _).tok _, ⟨_, rfl⟩, q (es.toList.map keyOf) nd mem (by rw [List.length_map, Array.length_toList]; exact num)⟩
theorem v_lenS {w : World} {a : Addr} {ns : List Int} {n : Nat} {H : Hp} {Q : VK} (h : H a = some (SetO w a (fun j => decide (j ∈ ns)) n)) (k : ∀ es : List Int, es.Nodup → (∀ z : Int, z ∈ es ↔ z ∈ ns) → Q (.int es.length) H) : kLenS w [.ref a] H Q :=
  ⟨a, _, n, rfl, h, fun es nd m l => l ▸ k es nd fun z => by rw [← m z, decide_eq_true_iff]⟩
/-! ### walks -/
/-- the walk J yields the data ds, outside of W, whatever of N changes -/
structure Yv (N W : Addr → Prop) (J : It) (H0 : Hp) (ds : List PyData) : Prop where
  go : ∀ (H : Hp) (i : Nat), Keep N H0 H → i < ds.length → J.go i H
  stop : ∀ (H : Hp), Keep N H0 H → J.stop ds.length H
  yld : ∀ (H H' : Hp) (i : Nat) (x : V) (d : PyData), Keep N H0 H → ds[i]? = some d → J.yld i H x H' → Keep Nil H H' ∧ Rp W H' x d
theorem yv_list {N W : Addr → Prop} {K : PySem.W.Frag} {H : Hp} {a : Addr} {xs : List V} {ds : List PyData} (h : H a = some (.lst xs)) (n : ¬ N a) (r : RpA W H xs ds) (s : ∀ x, N x → W x) : Yv N W (Itl K a) H ds := by
  refine ⟨fun H1 i k hi => ⟨xs, xs[i]'(by rw [r.len]; exact hi), SqL.of (k _ _ n h), List.getElem?_eq_getElem _⟩, fun H1 k => ⟨xs, SqL.of (k _ _ n h), by rw [r.len]; exact Nat.le_refl _⟩, fun H1 H2 i x d k e y => ?_⟩
  obtain ⟨rfl, y⟩ := y
  obtain ⟨v, e1, e2⟩ := r.at_ e
  have := y xs (SqL.of (k _ _ n h))
  rw [e1] at this; cases this
  exact ⟨Keep.refl, e2.keep (k.mono s)⟩
theorem yv_ints {N W : Addr → Prop} {K : PySem.W.Frag} {H : Hp} {a : Addr} {l : List Int} (h : H a = some (.lst (l.map V.int))) (n : ¬ N a) : Yv N W (Itl K a) H (l.map PyData.int) := by
  have y := yv_list (N := N) (W := N) (K := K) h n (RpA.ints l) (fun _ z => z)
  refine ⟨y.go, y.stop, fun H1 H2 i x d k e q => ?_⟩
  obtain ⟨k2, r⟩ := y.yld H1 H2 i x d k e q
  rw [List.getElem?_map] at e
  obtain ⟨z, _, rfl⟩ := Option.map_eq_some_iff.mp e
  rw [r.int_]
  exact ⟨k2, .int _⟩
theorem yv_tup {N W : Addr → Prop} {K : PySem.W.Frag} {H : Hp} {a : Addr} {xs : List V} {ds : List PyData} (h : H a = some (.tup xs)) (n : ¬ N a) (r : RpA W H xs ds) (s : ∀ x, N x → W x) : Yv N W (Itt K a) H ds := by
  refine ⟨fun H1 i k hi => ⟨xs, xs[i]'(by rw [r.len]; exact hi), SqT.of (k _ _ n h), List.getElem?_eq_getElem _⟩, fun H1 k => ⟨xs, SqT.of (k _ _ n h), by rw [r.len]; exact Nat.le_refl _⟩, fun H1 H2 i x d k e y => ?_⟩
  obtain ⟨rfl, y⟩ := y
  obtain ⟨v, e1, e2⟩ := r.at_ e
  have := y xs (SqT.of (k _ _ n h))
  rw [e1] at this; cases this
  exact ⟨Keep.refl, e2.keep (k.mono s)⟩
def rng (lo : Int) (n : Nat) : List PyData := (List.range n).map fun i => PyData.int (lo + (i : Nat))
theorem rng_len (lo : Int) (n : Nat) : (rng lo n).length = n := by unfold rng; rw [List.length_map, List.length_range]
theorem rng_get {lo : Int} {n i : Nat} {d : PyData} (h : (rng lo n)[i]? = some d) : i < n ∧ d = .int (lo + (i : Nat)) := by
  have hi : i < n := by have := (List.getElem?_eq_some_iff.mp h).1; rw [rng_len] at this; exact this
  unfold rng at h
  rw [List.getElem?_map, List.getElem?_range hi] at h
  exact ⟨hi, by simpa using h.symm⟩
theorem yv_rng {N W : Addr → Prop} {H : Hp} {lo : Int} {n : Nat} : Yv N W (Itr lo n) H (rng lo n) := by
  refine ⟨fun H1 i k hi => by rw [rng_len] at hi; exact hi, fun H1 k => by rw [rng_len]; exact Nat.le_refl _, fun H1 H2 i x d k e y => ?_⟩
  obtain ⟨rfl, rfl⟩ := y
  obtain ⟨_, rfl⟩ := rng_get e
  exact ⟨Keep.refl, .int _⟩
def signs (x : Str) : List PyData := x.cps.toList.map fun c => PyData.str ⟨#[c]⟩
theorem yv_str {N W : Addr → Prop} {H : Hp} {x : Str} : Yv N W (Its x) H (signs x) := by
  have len : (signs x).length = x.cps.size := by unfold signs; rw [List.length_map, Array.length_toList]
  refine ⟨fun H1 i k hi => by rw [len] at hi; exact hi, fun H1 k => by rw [len]; exact Nat.le_refl _, fun H1 H2 i v d k e y => ?_⟩
  obtain ⟨rfl, c, hc, rfl⟩ := y
  unfold signs at e
  rw [List.getElem?_map, Array.getElem?_toList, hc] at e
  cases e
  exact ⟨Keep.refl, .str _⟩
section
variable {J : It} {g : TG} {tt : TT} {te : TE} {vs : List Nat} {σ : L2.St} {H : Hp} {Q : VK}
/-- a comprehension that reads and makes new things alone -/
theorem lcT {α : Type} (W : Addr → Prop) (enc : α → PyData) (l : List α) (p : α → Bool) (f : α → PyData) (al : Al W H) (few : l.length < sizeLine) (Y : ∀ D, H D = none → Yv Nil (fun x => W x ∨ x = D) J H (l.map enc))
    (body : ∀ (D : Addr) (i : Nat) (x : V) (d : α) (H1 : Hp) (R : VK) (N : Hp → Prop), H D = none → l[i]? = some d → Keep Nil H H1 → Al (fun x => W x ∨ x = D) H1 → Rp (fun x => W x ∨ x = D) H1 x (enc d) →
      (∀ y H4, Keep Nil H1 H4 → Rp (fun x => W x ∨ x = D) H4 y (f d) → p d = true → R y H4) → (∀ H3, Keep Nil H1 H3 → p d = false → N H3) →
      g x (wipe σ vs) H1 fun σ2 H2 => wipe σ2 vs = wipe σ vs ∧ tt σ2 H2 fun b H3 => if b = true then te σ2 H3 R else N H3)
    (cont : ∀ (D : Addr) (H' : Hp), H D = none → Keep Nil H H' → Rp W H' (.ref D) (.list ((l.filter p).map f)) → Q (.ref D) H') : kLc J g tt te vs σ H Q := by
  intro D hD
  refine ⟨fun i m H' => m = l.length - i ∧ i ≤ l.length ∧ ∃ us, H' D = some (.lst us) ∧ RpA (fun x => W x ∨ x = D) H' us (((l.take i).filter p).map f) ∧ Keep Nil H H', ⟨_, rfl, Nat.zero_le _, [], upd_same, by simp; exact .nil, Keep.alloc hD⟩, ?_⟩
  rintro i m H1 ⟨rfl, hi, us, eD, ru, k1⟩
  have nD : ¬ W D := al D hD
  by_cases lt : i < l.length
  · refine .inr ⟨(Y D hD).go H1 i k1 (by rw [List.length_map]; exact lt), fun H' => ∃ us, H' D = some (.lst us) ∧ RpA (fun x => W x ∨ x = D) H' us (((l.take (i + 1)).filter p).map f) ∧ Keep Nil H H', fun H' h => ⟨l.length - (i + 1), by omega, rfl, lt, h⟩, fun x H2 hy => ?_⟩
    have hd := List.getElem?_eq_getElem lt
    obtain ⟨k2, rx⟩ := (Y D hD).yld H1 H2 i x (enc l[i]) k1 (by rw [List.getElem?_map, hd]; rfl) hy
    have k12 := k1.trans k2
    have eD2 := k2.get (fun z => z) eD
    have tk : l.take (i + 1) = l.take i ++ [l[i]] := by rw [List.take_succ, hd]; rfl
    refine body D i x _ H2 _ _ hD hd k12 ((al.same k12).one eD2) rx (fun y H5 k5 r5 hp => ?_) fun H4 k4 hp => ?_
    · have eD5 := k5.get (fun z => z) eD2
      have ru5 := ru.same (k2.trans k5)
      have kD : Keep (fun x => W x ∨ x = D) H5 (upd H5 D (.lst (us ++ [y]))) := Keep.refl.set (.inr rfl)
      refine ⟨us, eD5, ?_, us ++ [y], upd_same, ?_, (k12.trans k5).setN hD⟩
      · have h1 := ru.len
        have h2 := List.length_filter_le p (l.take i)
        rw [List.length_map] at h1
        rw [List.length_take] at h2
        omega
      · rw [tk, List.filter_append, List.map_append]
        have : [l[i]].filter p = [l[i]] := by simp [hp]
        rw [this]
        exact (ru5.keep kD).snoc (r5.keep kD)
    · refine ⟨us, k4.get (fun z => z) eD2, ?_, k12.trans k4⟩
      rw [tk, List.filter_append, List.map_append]
      have : [l[i]].filter p = [] := by simp [hp]
      rw [this, List.map_nil, List.append_nil]
      exact ru.same (k2.trans k4)
  · have e : i = l.length := by omega
    subst e
    rw [List.take_of_length_le (Nat.le_refl _)] at ru
    have st := (Y D hD).stop H1 k1
    rw [List.length_map] at st
    exact .inl ⟨st, cont D H1 hD k1 (.lst eD nD (ru.sub fun x h => .inl h))⟩
theorem filter_tt {α : Type} (l : List α) : (l.filter fun _ => true) = l := by simp
/-- a comprehension that changes W, by what is told of S; without a test -/
theorem lcS (W : Addr → Prop) (ds : List PyData) (S : Nat → List PyData → Hp → Prop) (few : ds.length < sizeLine) (al : Al W H) (Y : ∀ D, H D = none → Yv W (fun x => W x ∨ x = D) J H ds)
    (als : ∀ i out H1, S i out H1 → Al W H1)
    (S0 : S 0 [] H) (stab : ∀ D i out H1 H2, H D = none → Keep (fun x => x = D) H1 H2 → (∀ o, H1 D = some o → ∃ l, o = .lst l) → S i out H1 → S i out H2)
    (body : ∀ (D : Addr) (i : Nat) (x : V) (d : PyData) (out : List PyData) (H1 : Hp) (R : VK) (N : Hp → Prop), H D = none → ds[i]? = some d → out.length = i → Keep W H H1 → Al (fun x => W x ∨ x = D) H1 → Rp (fun x => W x ∨ x = D) H1 x d → S i out H1 →
      (∀ y H4 e, Keep W H1 H4 → Rp (fun x => W x ∨ x = D) H4 y e → S (i + 1) (out ++ [e]) H4 → R y H4) →
      g x (wipe σ vs) H1 fun σ2 H2 => wipe σ2 vs = wipe σ vs ∧ tYes σ2 H2 fun b H3 => if b = true then te σ2 H3 R else N H3)
    (cont : ∀ (D : Addr) (H' : Hp) (out : List PyData), H D = none → out.length = ds.length → Keep W H H' → S ds.length out H' → Rp W H' (.ref D) (.list out) → Q (.ref D) H') : kLc J g tYes te vs σ H Q := by
  intro D hD
  have nD : ¬ W D := al D hD
  refine ⟨fun i m H' => m = ds.length - i ∧ i ≤ ds.length ∧ ∃ us out, H' D = some (.lst us) ∧ out.length = i ∧ RpA (fun x => W x ∨ x = D) H' us out ∧ Keep W H H' ∧ S i out H',
    ⟨_, rfl, Nat.zero_le _, [], [], upd_same, rfl, .nil, Keep.alloc hD, stab D 0 [] H _ hD (Keep.refl.set rfl) (fun o e => by rw [hD] at e; cases e) S0⟩, ?_⟩
  rintro i m H1 ⟨rfl, hi, us, out, eD, lo, ru, k1, s1⟩
  by_cases lt : i < ds.length
  · refine .inr ⟨(Y D hD).go H1 i k1 lt, fun H' => ∃ us out, H' D = some (.lst us) ∧ out.length = i + 1 ∧ RpA (fun x => W x ∨ x = D) H' us out ∧ Keep W H H' ∧ S (i + 1) out H', fun H' h => ⟨ds.length - (i + 1), by omega, rfl, lt, h⟩, fun x H2 hy => ?_⟩
    have hd := List.getElem?_eq_getElem lt
    obtain ⟨k2, rx⟩ := (Y D hD).yld H1 H2 i x _ k1 hd hy
    have k12 := k1.trans k2.weak
    have eD2 := k2.get (fun z => z) eD
    have s2 := stab D i out H1 H2 hD k2.weak (fun o e => by rw [eD] at e; exact ⟨_, (Option.some.inj e).symm⟩) s1
    refine body D i x _ out H2 _ _ hD hd lo k12 ((als _ _ _ s2).one eD2) rx s2 fun y H5 e k5 r5 s5 => ?_
    have eD5 := k5 _ _ nD eD2
    have ru2 := ru.same k2
    have kD : Keep (fun x => x = D) H5 (upd H5 D (.lst (us ++ [y]))) := Keep.refl.set rfl
    have kW : Keep (fun x => W x ∨ x = D) H5 (upd H5 D (.lst (us ++ [y]))) := kD.mono fun _ h => .inr h
    refine ⟨us, eD5, ?_, us ++ [y], out ++ [e], upd_same, by rw [List.length_append, lo]; rfl, ?_, (k12.trans k5).setN hD, stab D _ _ _ _ hD kD (fun o q => by rw [eD5] at q; exact ⟨_, (Option.some.inj q).symm⟩) s5⟩
    · have h1 := ru.len
      omega
    · exact ((ru2.keep (k5.mono fun _ h => .inl h)).keep kW).snoc (r5.keep kW)
  · have e : i = ds.length := by omega
    subst e
    exact .inl ⟨(Y D hD).stop H1 k1, cont D H1 out hD lo k1 s1 (.lst eD nD (ru.sub fun x h => .inl h))⟩
end
end Hm

/-! F6: dicts keyed by pairs of ints: sorted(d). -/
namespace Hm
open PySem PySem.Spec PyProof.Rows L2
abbrev TX := List L2.Key × V
def pk (p : Int × Int) : List L2.Key := [Sum.inl p.1, Sum.inl p.2]
theorem pk_inj {p q : Int × Int} (h : pk p = pk q) : p = q := by
  unfold pk at h
  injection h with h1 h2
  injection h2 with h2 _
  injection h1 with h1
  injection h2 with h2
  exact Prod.ext h1 h2
/-- a list of pairs, sorted as Python sorts tuples -/
def RisP (l : List (Int × Int)) : Prop := l.Pairwise fun p q => SrtO.lexB q p = false
theorem risP_eq {l m : List (Int × Int)} (p : l.Perm m) (h1 : RisP l) (h2 : RisP m) : l = m :=
  List.Perm.eq_of_pairwise (fun a b _ _ h h' => by
    have h := SrtO.lexB_no.mp h
    have h' := SrtO.lexB_no.mp h'
    exact Prod.ext (by omega) (by omega)) h1 h2 p
def kH (H : Hp) (v : Value) : Int × Int := match v with
  | .ref a => match H a with
    | some (.tup [.int i, .int j]) => (i, j)
    | _ => (0, 0)
  | _ => (0, 0)
def adr (v : Value) : Addr := match v with
  | .ref a => a
  | _ => default
def PrT (H : Hp) (t : Addr) (p : Int × Int) : Prop := H t = some (.tup [.int p.1, .int p.2])
def uSortDictP : List V → Hp → VK → Prop := fun xs H Q => ∃ (a : Addr) (kvs : List TX) (ks : List (Int × Int)), xs = [.ref a] ∧ H a = some (.dT kvs) ∧ kvs.map (·.1) = ks.map pk ∧
  ∀ (bs : List Addr) (ys : List (Int × Int)) (p : Addr), ys.Perm ks → RisP ys → Paired (PrT H) bs ys → H p = none → Q (.ref p) (upd H p (.lst (bs.map V.ref)))
section
variable {X : Cx}
theorem cu_sortDictP (hcalm : X.calm = true) : CallR X (.builtin "sorted") uSortDictP := by
  intro pins s σ H xs us Q I r q
  obtain ⟨a, kvs, ks, rfl, hd, hks, q⟩ := q
  rw [Vals.ref1 r]
  obtain ⟨z, hs, kr, pr, o, es, ep, ho, hx, hdt, he, hn⟩ := (show ObjOk X.prog X.w H s.heap a (.dT kvs) from (Rd.of hd).ok I.hok)
  have l1 : es.size = kr.length := size_of_entries he
  have l2 : kvs.length = kr.length := Paired.length pr
  have hkr : kr.map (fun x => kH H (.ref x.2.1)) = ks ∧ ∀ x ∈ kr, H x.2.1 = some (.tup [.int (kH H (.ref x.2.1)).1, .int (kH H (.ref x.2.1)).2]) := by
    clear q hn he l1 l2 hd z
    induction pr generalizing ks with
    | nil =>
      cases ks with
      | nil => exact ⟨rfl, fun _ h => nomatch h⟩
      | cons _ _ => simp at hks
    | @cons p q ps qs h t ih =>
      cases ks with
      | nil => simp at hks
      | cons k ks =>
        rw [List.map_cons, List.map_cons] at hks
        injection hks with e1 e2
        obtain ⟨i1, i2⟩ := ih ks e2
        have hq : H q.2.1 = some (.tup [.int k.1, .int k.2]) := by rw [h.2.1, e1]; rfl
        have ek : kH H (.ref q.2.1) = k := by unfold kH; simp only [hq]
        refine ⟨by rw [List.map_cons, i1, ek], fun x hx => ?_⟩
        rcases List.mem_cons.mp hx with rfl | hx
        · rw [ek]; exact hq
        · exact i2 x hx
  obtain ⟨hk1, hk2⟩ := hkr
  refine Calls.call_function_entry kind_sorted plain_sorted entry_sorted (args_sorted1 _) ?_
  unfold Builtin.«sorted»
  refine wpAny_bind (m := checkCount "sorted" 1 1 _) (wpAny_pure ?_)
  refine wpAny_bind (PySem.W.kdu_collect (A := X.A.in1) (kdl_raw hs hx hdt) (I.ok.hd hcalm) ho (by omega) fun h' tk acc hk hacc => ?_)
  have ea : acc.toList = kr.map fun x => Value.ref x.2.1 := by
    have hl : acc.toList.length = kr.length := by rw [Array.length_toList, hacc.1]; exact l1
    apply List.ext_getElem?
    intro j
    rw [List.getElem?_map]
    cases hj : acc.toList[j]? with
    | none =>
      have h1 := List.getElem?_eq_none_iff.mp hj
      rw [List.getElem?_eq_none (by omega)]
      all_goals rfl
    | some v =>
      obtain ⟨en, hen, hv⟩ := hacc.2 j v (by rw [← Array.getElem?_toList]; exact hj)
      have qe := entry_at he j
      rw [hen] at qe
      cases hb : kr[j]? with
      | none =>
        rw [hb] at qe
        exact nomatch (show some en = none from qe)
      | some b =>
        rw [hb] at qe
        have e2 : en = entryOfKey (tupleKind (mixKind X.prog X.w)) b := Option.some.inj qe
        rw [hv, e2]
        all_goals rfl
  have I1 : Inv X pins σ H { s with heap := h', toks := tk } := I.kept hk
  have hal2 : acc.toList.length ≤ sizeLine := by rw [ea, List.length_map]; omega
  refine wpAny_bind (wpAny_newList ?_ hal2)
  have at1 : (h'.push (seqObj "list" acc.toList.toArray 0)).get? h'.objs.size = some (seqObj "list" acc.toList.toArray 0) := Heap.get?_push_size _ rfl
  show wpAny _ _ _ _ _ { s with heap := h'.push (seqObj "list" acc.toList.toArray 0), toks := tk }
  have isp : ∀ v ∈ acc.toList, Srt.IsPair (h'.push (seqObj "list" acc.toList.toArray 0)) v (kH H v).1 (kH H v).2 := fun v hv => by
    rw [ea] at hv
    obtain ⟨x, hx, rfl⟩ := List.mem_map.mp hv
    obtain ⟨_, its2, r2, o, ho, hc, n, hd⟩ := I1.hok _ _ (hk2 x hx)
    obtain ⟨u1, u2, rfl, ri, rj⟩ := vals2 r2
    obtain ⟨t1, rfl⟩ := ri
    obtain ⟨t2, rfl⟩ := rj
    exact ⟨x.2.1, o, t1, t2, n, rfl, Heap.get?_push_of_some _ ho, hc, hd⟩
  refine wpAny_bind (wpAny_holding (wpAny_call_entry slot_list_sort ⟨_, at1, rfl⟩ entry_list_sort
    (SrtO.list_sort_ord (SrtO.swo_lex (kH H)) (s := { s with heap := h'.push (seqObj "list" acc.toList.toArray 0), toks := tk }) at1 hal2 (fun h2 => SrtO.pairs_sortableO (by omega) isp fun o e => ?_) fun out z1 z2 => ⟨_, rfl, ?_⟩) (args_list_sort _)))
  · have e' : some o = some (seqObj "list" acc.toList.toArray 0) := e.symm.trans at1
    cases e'
    intro c
    exact absurd (Value.type.inj c) (by decide)
  obtain ⟨c, hc⟩ := sortedHeap_at (vs := acc.toList) (out := out.toArray) at1
  have outr : ∀ v ∈ out, ∃ x ∈ kr, v = Value.ref x.2.1 := fun v hv => by
    have := z2.perm.mem_iff.mp hv
    rw [ea] at this
    obtain ⟨x, hx, rfl⟩ := List.mem_map.mp this
    exact ⟨x, hx, rfl⟩
  have eo : out.map (fun v => Value.ref (adr v)) = out := by
    have : out.map (fun v => Value.ref (adr v)) = out.map id := List.map_congr_left fun v hv => by
      obtain ⟨x, _, rfl⟩ := outr v hv
      rfl
    rw [this, List.map_id]
  have hlen : ((out.map adr).map V.ref).length ≤ sizeLine := by
    rw [List.length_map, List.length_map, z2.perm.length_eq]; exact hal2
  have rv : Vals ((out.map adr).map V.ref) out := by
    have := vals_refs (out.map adr)
    rw [List.map_map (f := adr) (g := Value.ref), show (Value.ref ∘ adr) = fun v => Value.ref (adr v) from rfl, eo] at this
    exact this
  have pys : (out.map (kH H)).Perm ks := by
    have := z2.perm.map (kH H)
    rw [ea, List.map_map] at this
    rw [← hk1]; exact this
  have pp : Paired (PrT H) (out.map adr) (out.map (kH H)) := by
    clear pys rv hlen eo hc z1 z2 q
    induction out with
    | nil => exact .nil
    | cons v l ih =>
      refine .cons ?_ (ih fun v hv => outr v (List.mem_cons_of_mem _ hv))
      obtain ⟨x, hx, rfl⟩ := outr v List.mem_cons_self
      exact hk2 x hx
  refine wpAny_pure ⟨_, rfl, .ref h'.objs.size, upd H h'.objs.size (.lst ((out.map adr).map V.ref)), I1.laid (t' := tk) (fun b u e => ?_) (Nat.le_refl _)
    (show ObjOk X.prog X.w _ _ _ (.lst ((out.map adr).map V.ref)) from ⟨hlen, out, c, rv, hc⟩), rfl, q _ _ _ pys (List.pairwise_map.mpr z1) pp (I1.hok.fresh (Nat.le_refl _))⟩
  have hb : b < h'.objs.size := Heap.lt_size e
  rw [sortedHeap_old (Nat.ne_of_lt hb) (by rw [size_push']; exact Nat.lt_succ_of_lt hb)]
  exact Heap.get?_push_of_some _ e
end
theorem v_sortedP {a : Addr} {kvs : List TX} {ks : List (Int × Int)} {H : Hp} {Q : VK} (h : H a = some (.dT kvs)) (e : kvs.map (·.1) = ks.map pk) (k : ∀ (bs : List Addr) (ys : List (Int × Int)) (p : Addr), ys.Perm ks → RisP ys → Paired (PrT H) bs ys → H p = none → Q (.ref p) (upd H p (.lst (bs.map V.ref)))) : uSortDictP [.ref a] H Q :=
  ⟨a, kvs, ks, rfl, h, e, k⟩
/-- {k: v} with one flat tuple for a key -/
def uDispT (tk tv : TE) : TE := fun σ H Q => ∀ p, H p = none → tk σ (upd H p (.dT [])) fun x H1 => tv σ H1 fun y H2 =>
  ∃ (k : List L2.Key) (b : Addr), x = .ref b ∧ H2 p = some (.dT []) ∧ H2 b = some (.tup (k.map kV)) ∧ Q (.ref p) (upd H2 p (.dT [(k, y)]))
theorem pe_dispT {X : Cx} {ke ve : Expr} {tk tv : TE} {pos : Pos} (hu : X.A.units + 64 < cLine) (hk : PE X ke tk) (hv : PE X ve tv)
    (shape : (evalEachOpt [some ke] X.env).zip ((evalEach [ve] X.env).map fun v => do let x ← v; standAt pos; pure x) = [(eval ke X.env, (do let x ← eval ve X.env; standAt pos; pure x))].map fun p => (some p.1, p.2) := by rfl) :
    PE X (.Dict [some ke] [ve] pos) (uDispT tk tv) := by
  refine ⟨fun pins s σ H Q I h => ?_⟩
  have hn := I.hok.fresh (Nat.le_refl s.heap.objs.size)
  have I1 := I.laid (a := s.heap.objs.size) (o := .dT []) (h' := s.heap.push { cls := .type "dict", data := .dict #[] }) (t' := s.toks) (fun _ _ q => Heap.get?_push_of_some _ q) (Nat.le_refl _) (dt_empty s.heap I.big)
  have h1 : PPs X pos [some ke] [ve] [(tk, tv)] := pps_cons hk hv pps_nil
  have trees : pairTrees [some ke] [ve] X.env pos = [(eval ke X.env, (do let x ← eval ve X.env; standAt pos; pure x))] := by rfl
  have run := h1.run pins _ σ _ (fun ps H2 => match ps with
    | [(x, y)] => ∃ (k : List L2.Key) (b : Addr), x = .ref b ∧ H2 s.heap.objs.size = some (.dT []) ∧ H2 b = some (.tup (k.map kV)) ∧ Q (.ref s.heap.objs.size) (upd H2 s.heap.objs.size (.dT [(k, y)]))
    | _ => False) I1 (h _ hn)
  rw [trees] at run
  rw [arm_eval_Dict, shape, dictDisplay_pairs _ (by simp) (by simp)]
  refine wpAny_bind (wpAny_standAt (wpAny_bind (wpAny_subDictH (knd := tupleKind (mixKind X.prog X.w)) (show X.A.units < cLine by omega) (by simp) (thn run fun vs s2 hh => ?_))))
  obtain ⟨ps, H2, I2, rel, q⟩ := hh
  split at q
  · rename_i x y
    obtain ⟨k, b, rfl, e, eb, q⟩ := q
    cases rel with
    | @cons p1 q1 ps qs rr t =>
    cases t
    obtain ⟨u1, u2⟩ := q1
    obtain ⟨r1, r2⟩ := rr
    cases (show u1 = Value.ref b from r1)
    obtain ⟨z, hd, xs, rr, D⟩ := dt_of I2.hok e
    cases rr
    refine ⟨[(k, b, u2)], ⟨rfl, rfl, key_of I2.hok eb, True.intro⟩, D, fun h' tk' D' hs => wpAny_pure ⟨.ref s.heap.objs.size, _, ?_, rfl, q⟩⟩
    obtain ⟨q', es, ep, hq, h2, h3, h4, _, h5⟩ := id D'
    refine d_write I2 (by rw [e]; exact True.intro) hs ⟨q', hq⟩ ⟨by rw [sizeLine_eq]; exact (by decide : (1 : Nat) ≤ 16777216), hd, [(k, b, u2)], .cons ⟨rfl, ?_, r2⟩ .nil, q', es, ep, hq, h2, h3, h4, h5⟩
    show upd H2 _ _ b = _
    rw [upd_ne (ne_of eb e (fun z => nomatch z))]
    exact eb
  · exact q.elim
/-! ### loops that change one slot -/
section
variable {K : PySem.W.Frag} {a : Addr} {tb : TS} {D : Ends} {σ : L2.St} {H : Hp} {i : Nat}
theorem forI {l : List Int} (Pv : Nat → Hp → Prop) (hl : ∀ j H', Pv j H' → H' a = some (.lst (l.map V.int))) (o0 : Option V) (e0 : σ.set i o0 = σ) (h0 : Pv 0 H)
    (hs : ∀ j z H', l[j]? = some z → Pv j H' → tb { D with nx := fun s h => ∃ o, s = σ.set i o ∧ Pv (j + 1) h, ct := fun s h => ∃ o, s = σ.set i o ∧ Pv (j + 1) h, bk := D.nx } (σ.set i (some (.int z))) H')
    (hd : ∀ o H', Pv l.length H' → D.nx (σ.set i o) H') : kFor (Itl K a) (gName i) tb D σ H := by
  refine for_list (xs := l.map V.int) (fun j s H' => ∃ o, s = σ.set i o ∧ Pv j H') ⟨o0, e0.symm, h0⟩ (fun j s H' _ ⟨_, _, h⟩ => SqL.of (hl j H' h)) ?_ ?_
  · rintro j x s H' hj ⟨o, rfl, h⟩
    rw [List.getElem?_map] at hj
    obtain ⟨z, hz, rfl⟩ := Option.map_eq_some_iff.mp hj
    refine r_gname ?_
    rw [List.set_set]
    exact hs j z H' hz h
  · rintro s H' ⟨o, rfl, h⟩
    rw [List.length_map] at h
    exact hd o H' h
end
theorem forI2 {K : PySem.W.Frag} {a : Addr} {tb : TS} {D : Ends} {σ : L2.St} {H : Hp} {i k : Nat} {l : List Int} (Pv : Nat → Hp → Prop) (hl : ∀ j H', Pv j H' → H' a = some (.lst (l.map V.int))) (o0 p0 : Option V) (e0 : (σ.set i o0).set k p0 = σ) (hik : i ≠ k) (h0 : Pv 0 H)
    (hs : ∀ j z H' (p : Option V), l[j]? = some z → Pv j H' → tb { D with nx := fun s h => ∃ o p, s = (σ.set i o).set k p ∧ Pv (j + 1) h, ct := fun s h => ∃ o p, s = (σ.set i o).set k p ∧ Pv (j + 1) h, bk := D.nx } ((σ.set i (some (.int z))).set k p) H')
    (hd : ∀ o p H', Pv l.length H' → D.nx ((σ.set i o).set k p) H') : kFor (Itl K a) (gName i) tb D σ H := by
  refine for_list (xs := l.map V.int) (fun j s H' => ∃ o p, s = (σ.set i o).set k p ∧ Pv j H') ⟨o0, p0, e0.symm, h0⟩ (fun j s H' _ ⟨_, _, _, h⟩ => SqL.of (hl j H' h)) ?_ ?_
  · rintro j x s H' hj ⟨o, p, rfl, h⟩
    rw [List.getElem?_map] at hj
    obtain ⟨z, hz, rfl⟩ := Option.map_eq_some_iff.mp hj
    refine r_gname ?_
    rw [List.set_comm _ _ (Ne.symm hik), List.set_set]
    exact hs j z H' p hz h
  · rintro s H' ⟨o, p, rfl, h⟩
    rw [List.length_map] at h
    exact hd o p H' h
theorem r_ikeysT {td : TE} {σ : L2.St} {H : Hp} {R : It → Hp → Prop} (k : td σ H fun x H1 => ∃ d o, x = .ref d ∧ ((∃ kvs, H1 d = some (.frz o (.dK kvs)) ∧ R (Itk d o kvs) H1) ∨ ∃ kvs, H1 d = some (.frz o (.dT kvs)) ∧ R (Itkt d o kvs) H1)) : iKeys td σ H R := k
/-- a walk over the keys of a dict that is locked for it -/
theorem forT {d : Addr} {o : Obj} {kvs : List TX} {ks : List (Int × Int)} {g : TG} {tb : TS} {D : Ends} {σ : L2.St} {H : Hp} (ke : kvs.map (·.1) = ks.map pk) (Pv : Nat → L2.St → Hp → Prop) (h0 : Pv 0 σ H) (hl : ∀ j σ H, Pv j σ H → H d = some (.frz o (.dT kvs)))
    (hs : ∀ j z q σ H, ks[j]? = some z → Pv j σ H → PrT H q z → g (.ref q) σ H fun σ2 H2 => tb { D with nx := Pv (j + 1), ct := Pv (j + 1), bk := D.nx } σ2 H2)
    (hd : ∀ σ H, Pv ks.length σ H → D.nx σ H) : kFor (Itkt d o kvs) g tb D σ H := by
  have len : kvs.length = ks.length := by have := congrArg List.length ke; rw [List.length_map, List.length_map] at this; exact this
  refine ⟨fun i m σ H => m = ks.length - i ∧ i ≤ ks.length ∧ Pv i σ H, ⟨_, rfl, Nat.zero_le _, h0⟩, ?_⟩
  rintro i m σ H ⟨rfl, hi, p⟩
  by_cases lt : i < ks.length
  · refine .inr ⟨⟨hl _ _ _ p, by omega⟩, Pv (i + 1), fun σ' H' p' => ⟨ks.length - (i + 1), by omega, rfl, lt, p'⟩, fun x H' y => ?_⟩
    obtain ⟨rfl, k, v, q, e1, rfl, e2⟩ := y
    have hz := List.getElem?_eq_getElem lt
    have e3 : (kvs.map (·.1))[i]? = some k := by rw [List.getElem?_map, e1]; rfl
    rw [ke, List.getElem?_map, hz] at e3
    cases e3
    exact hs i _ q σ _ hz p e2
  · have e : i = ks.length := by omega
    subst e
    exact .inl ⟨⟨hl _ _ _ p, by omega⟩, hd σ H p⟩
theorem lock_keep {M : Addr → Prop} {H H' : Hp} {d : Addr} {u f : HO} (h : H d = some u) (k : Keep M (upd H d f) H') : Keep M H (upd H' d u) := fun a o n e => by
  by_cases z : a = d
  · subst z
    rw [h] at e; rw [upd_same]; exact e
  · rw [upd_ne z]
    exact k a o n (by rw [upd_ne z]; exact e)
theorem find_at {α : Type} {p : α → Bool} {l : List α} {j : Nat} {x : α} (h : l[j]? = some x) (n : ∀ y ∈ l.take j, p y = false) (hx : p x = true) : l.find? p = some x := by
  have e : l = l.take j ++ x :: l.drop (j + 1) := by
    obtain ⟨hl, rfl⟩ := List.getElem?_eq_some_iff.mp h
    rw [List.getElem_cons_drop, List.take_append_drop]
  rw [e, List.find?_append, List.find?_eq_none.mpr (fun y hy => by simp [n y hy]), Option.none_or, List.find?_cons_of_pos hx]
theorem find_no {α : Type} {p : α → Bool} {l : List α} (n : ∀ y ∈ l, p y = false) : l.find? p = none := List.find?_eq_none.mpr fun y hy => by simp [n y hy]
theorem take_snoc {α : Type} {l : List α} {j : Nat} {x : α} (h : l[j]? = some x) {P : α → Prop} (a : ∀ y ∈ l.take j, P y) (b : P x) : ∀ y ∈ l.take (j + 1), P y := fun y hy => by
  rw [List.take_succ, h] at hy
  rcases List.mem_append.mp hy with q | q
  · exact a y q
  · cases List.mem_singleton.mp q; exact b
/-! ### a text among texts -/
theorem inV_str {z : Str} (os : List Str) : inV (.str z) (os.map V.str) = decide (z ∈ os) := by
  unfold inV
  rw [List.any_map]
  by_cases h : z ∈ os
  · rw [decide_eq_true h]
    exact List.any_eq_true.mpr ⟨z, h, by simp [Function.comp, eqV]⟩
  · rw [decide_eq_false h]
    exact List.any_eq_false.mpr fun y hy => by
      simp only [Function.comp, eqV, beq_iff_eq]
      exact fun e => h (e ▸ hy)
theorem flat_strs : ∀ os : List Str, (os.map V.str).all flatV = true
  | [] => rfl
  | x :: r => by rw [List.map_cons, List.all_cons, flat_strs r]; rfl
theorem v_ninSt {P : Program} {w : World} {K : PySem.W.Frag} {H : Hp} {Q : VK} {l : Addr} {os : List Str} {z : Str} (h : H l = some (.tup (os.map V.str))) (q : Q (.bl (!decide (z ∈ os))) H) : cNotIn P w K (.str z) (.ref l) H Q :=
  .inl ⟨l, os.map V.str, rfl, .inr (SqT.of h), rfl, flat_strs os, by rw [if_pos rfl, inV_str]; exact q⟩
theorem v_inSt {P : Program} {w : World} {K : PySem.W.Frag} {H : Hp} {Q : VK} {l : Addr} {os : List Str} {z : Str} (h : H l = some (.tup (os.map V.str))) (q : Q (.bl (decide (z ∈ os))) H) : cIn P w K (.str z) (.ref l) H Q :=
  .inl ⟨l, os.map V.str, rfl, .inr (SqT.of h), rfl, flat_strs os, by rw [if_neg (by decide), inV_str]; exact q⟩
theorem v_ninSl {P : Program} {w : World} {K : PySem.W.Frag} {H : Hp} {Q : VK} {l : Addr} {os : List Str} {z : Str} (h : H l = some (.lst (os.map V.str))) (q : Q (.bl (!decide (z ∈ os))) H) : cNotIn P w K (.str z) (.ref l) H Q :=
  .inl ⟨l, os.map V.str, rfl, .inl (SqL.of h), rfl, flat_strs os, by rw [if_pos rfl, inV_str]; exact q⟩
theorem v_inSl {P : Program} {w : World} {K : PySem.W.Frag} {H : Hp} {Q : VK} {l : Addr} {os : List Str} {z : Str} (h : H l = some (.lst (os.map V.str))) (q : Q (.bl (decide (z ∈ os))) H) : cIn P w K (.str z) (.ref l) H Q :=
  .inl ⟨l, os.map V.str, rfl, .inl (SqL.of h), rfl, flat_strs os, by rw [if_neg (by decide), inV_str]; exact q⟩
theorem RpA.bools_ {W : Addr → Prop} {H : Hp} : ∀ {l : List Bool} {vs : List V}, RpA W H vs (l.map .bool) → vs = l.map V.bl
  | [], _, h => h.nil_
  | x :: l, _, h => by
    obtain ⟨v, r, rfl, h1, h⟩ := h.cons_
    rw [h1.bool_, RpA.bools_ h]; rfl
theorem inV_bl {z : Bool} (os : List Bool) : inV (.bl z) (os.map V.bl) = decide (z ∈ os) := by
  unfold inV
  rw [List.any_map]
  by_cases h : z ∈ os
  · rw [decide_eq_true h]
    exact List.any_eq_true.mpr ⟨z, h, by simp [Function.comp, eqV]⟩
  · rw [decide_eq_false h]
    exact List.any_eq_false.mpr fun y hy => by
      simp only [Function.comp, eqV, beq_iff_eq]
      exact fun e => h (e ▸ hy)
theorem flat_bls : ∀ os : List Bool, (os.map V.bl).all flatV = true
  | [] => rfl
  | x :: r => by rw [List.map_cons, List.all_cons, flat_bls r]; rfl
theorem v_inBl {P : Program} {w : World} {K : PySem.W.Frag} {H : Hp} {Q : VK} {W : Addr → Prop} {x : V} {os : List Bool} {z : Bool} (h : Rp W H x (.list (os.map .bool))) (q : Q (.bl (decide (z ∈ os))) H) : cIn P w K (.bl z) x H Q := by
  obtain ⟨l, xs, rfl, e, _, r⟩ := h.list_
  rw [r.bools_] at e
  exact .inl ⟨l, os.map V.bl, rfl, .inl (SqL.of e), rfl, flat_bls os, by rw [if_neg (by decide), inV_bl]; exact q⟩
theorem v_ninBl {P : Program} {w : World} {K : PySem.W.Frag} {H : Hp} {Q : VK} {W : Addr → Prop} {x : V} {os : List Bool} {z : Bool} (h : Rp W H x (.list (os.map .bool))) (q : Q (.bl (!decide (z ∈ os))) H) : cNotIn P w K (.bl z) x H Q := by
  obtain ⟨l, xs, rfl, e, _, r⟩ := h.list_
  rw [r.bools_] at e
  exact .inl ⟨l, os.map V.bl, rfl, .inl (SqL.of e), rfl, flat_bls os, by rw [if_pos rfl, inV_bl]; exact q⟩
/-! ### dicts keyed by pairs, truths in them -/
def BlV (kvs : List TX) : Prop := ∀ k v, valV kvs k = some v → ∃ b, v = .bl b
def gK (kvs : List TX) (x y : Int) : Bool := match valV kvs (pk (x, y)) with
  | some (.bl b) => b
  | _ => false
theorem gK_get {kvs : List TX} (h : BlV kvs) (x y : Int) : (valV kvs (pk (x, y))).getD (.bl false) = .bl (gK kvs x y) := by
  unfold gK
  cases e : valV kvs (pk (x, y)) with
  | none => rfl
  | some v =>
    obtain ⟨b, rfl⟩ := h _ v e
    rfl
theorem r_dg2 {td ty tx : TE} {σ : L2.St} {H : Hp} {Q : VK} (k : td σ H fun x H1 => ∃ a, x = .ref a ∧ IsD H1 a ∧ ty σ H1 fun y H2 => tx σ H2 fun z H3 => ∃ o, DGet H3 a y o ∧ Q (o.getD z) H3) : tDGet2 td ty tx σ H Q := k
/-- d.get((x, y), False), x and y in slots -/
theorem r_getP {ik ia ib : Nat} {kn : Addr} {kvs : List TX} {x y : Int} {σ : L2.St} {H : Hp} {Q : VK} (hk : σ[ik]? = some (some (.ref kn))) (ha : σ[ia]? = some (some (.int x))) (hb : σ[ib]? = some (some (.int y))) (e : Rd H kn (.dT kvs)) (bl : BlV kvs)
    (q : ∀ H', Keep Nil H H' → Q (.bl (gK kvs x y)) H') : tDGet2 (tVar ik) (tTup (tCons (tVar ia) (tCons (tVar ib) tNil))) (tC (.bl false)) σ H Q := by
  refine r_dg2 (r_var hk ⟨kn, rfl, .inr ⟨kvs, e⟩, r_tup (r_cons (r_var ha (r_cons (r_var hb (r_nil (r_ktup (by simp) fun p hp => r_c ?_))))))⟩)
  have kp : Keep Nil H (upd H p (.tup [.int x, .int y])) := Keep.alloc hp
  have e' : Rd (upd H p (.tup [.int x, .int y])) kn (.dT kvs) := e.imp (fun z => kp.get (fun z => z) z) fun ⟨o, z⟩ => ⟨o, kp.get (fun z => z) z⟩
  have g : DGet (upd H p (.tup [.int x, .int y])) kn (.ref p) (valV kvs (pk (x, y))) := .inr ⟨kvs, pk (x, y), p, e', rfl, upd_same, rfl⟩
  exact ⟨_, g, by rw [gK_get bl]; exact q _ kp⟩
end Hm

/-! F7: an except suite in which the error is known: isinstance of it there, calls of defs there. -/
namespace Hm
open PySem PySem.Spec PyProof.Rows L2
section
variable {X : Cx} {pins : List (Addr × Obj)} {σ : L2.St} {H : Hp} {s : Shared}
theorem suiteM (I : Inv X pins σ H s) (a : Addr) : Inv (X.suite a (X.pn ++ pins)) [] σ H s :=
  ⟨I.ok.suite _ _, I.os, I.bare, I.base, I.loc, I.cell, I.free, I.freeC, fun p hp => I.pin p (by rw [List.append_nil] at hp; exact hp), I.hok, I.len⟩
theorem unsuiteM {a : Addr} {pn' : List (Addr × Obj)} (I : Inv (X.suite a (X.pn ++ pins)) pn' σ H s) (ok : X.Ok) : Inv X pins σ H s :=
  ⟨ok, I.os, I.bare, I.base, I.loc, I.cell, I.free, I.freeC, fun p hp => I.pin p (List.mem_append_left _ hp), I.hok, I.len⟩
end
/-- what a clause «except c as n» wishes, the error known in its suite -/
def wValW (K : PySem.W.Frag) (c : Value) (i : Nat) (ts : Addr → Value → TS) (Wout : WX) (D : Ends) : WX := fun cls d σ H =>
  d = none ∧ ∃ b, PySem.W.exmOne K cls c = some b ∧
    (b = true → ∀ a, H a = none → ts a cls { nx := fun σ' H' => D.nx (σ'.set i none) H', rt := D.rt, bk := fun _ _ => False, ct := fun _ _ => False } (σ.set i (some (.ref a))) (upd H a (ExV cls a))) ∧ (b = false → Wout cls d σ H)
section
variable {X : Cx} {x n : Str} {c : Value} {i : Nat} {body suite : List Stmt} {b₀ : Stmt} {np pos pos' : Pos} {tb : WX → TS} {ts : Addr → Value → TS} {Wout : WX}
/-- try: body, except x as n: suite; what is caught stays an object that is known -/
theorem ps_try_valW (hs : X.stack = X.env :: X.outer) (hf : X.env.frame = some X.env.locals) (hN : X.N.Nodup) (hi : X.N[i]? = some n) (hln : X.env.kindOf n = some .local) (hc : Names X x c) (tk : Takes X Wout) (hex : X.ex = [])
    (hb : ∀ (W : WX) (pn : List (Addr × Obj)) (xe : Value → Shared → Prop), Takes (X.tr pn xe) W → PassesOwn (model X.prog X.w) X.A X.env xe → PSs (X.tr pn xe) body (tb W))
    (hsu : ∀ (a : Addr) (cls : Value) (pn : List (Addr × Obj)), PSs (X.suite a pn) (b₀ :: suite) (ts a cls)) :
    PS X (.Try body [.ExceptHandler (some (.Name x np)) (some n) (b₀ :: suite) pos'] [] [] pos) (fun D σ H => tb (wValW X.K c i ts Wout D) D σ H) := by
  refine ⟨fun pins s σ H D I h => wpAny_Try_except ?_⟩
  have ok := I.ok
  have hfr : X.A.frames = some (X.env :: X.outer) := by rw [ok.frames, hs]
  have run := (hb (wValW X.K c i ts Wout D) (X.pn ++ pins) (fun e s₁ => wpAny (model X.prog X.w) X.A (noteFrame e X.env) (fun _ s₂ => wpAny (model X.prog X.w) X.A (setFlight e none)
    (fun _ s₃ => wpAny (model X.prog X.w) X.A (handleBy e X.env [.ExceptHandler (some (.Name x np)) (some n) (b₀ :: suite) pos']) (SP X pins D) X.xe s₃) X.xe s₂) X.xe s₁) ?_ PassesOwn.looking).run [] s σ H D (I.toTry _) h
  · refine wpAny_mono run (fun f s1 hsp => ?_) fun _ _ z => z
    cases f with
    | next => obtain ⟨σ', H', J', q⟩ := hsp; exact wpAny_execs_nil ⟨σ', H', J'.ofTry ok, q⟩
    | brk => obtain ⟨σ', H', J', q⟩ := hsp; exact ⟨σ', H', J'.ofTry ok, q⟩
    | cont => obtain ⟨σ', H', J', q⟩ := hsp; exact ⟨σ', H', J'.ofTry ok, q⟩
    | ret u => obtain ⟨v, σ', H', J', r, q⟩ := hsp; exact ⟨v, σ', H', J'.ofTry ok, r, q⟩
  rintro u s' ⟨a, B, sI, pins', σ', H', cls, d, rfl, J', nb, up, sky, na, os, ag, rfl, b, hb1, hyes, hno⟩
  have J : Inv X pins σ' H' sI := J'.ofTry ok
  have air : Sky B (X.env :: X.outer) a (Zc cls none) X.env.locals s'.heap := by rw [← hs]; exact sky
  show wpAny (model X.prog X.w) X.A (noteFrame (.ref a) X.env) _ _ _
  refine Sky.land Zc.steady hfr hf air fun h3 fl3 up3 => ?_
  have J3 : Inv X pins σ' H' { s' with heap := h3 } := J.landed nb fl3.1 (up.trans up3) os ag
  obtain ⟨oe3, vs3, he3, hz3, hd3⟩ := fl3.there
  have aside : a ∉ frs (X.env :: X.outer) := fun hm => by
    obtain ⟨_, o', e', hnf⟩ := fl3.2.2.1.mem hm
    rw [he3] at e'; cases e'
    exact hnf _ hd3
  have gI : sI.heap.get? a = none := by
    cases e : sI.heap.get? a with
    | none => rfl
    | some o =>
      have q := nb a o e (by show a ∉ frs X.stack; rw [hs]; exact aside)
      rw [fl3.2.1] at q; cases q
  have nL : a ≠ X.env.locals := fun z => aside (List.mem_filterMap.mpr ⟨X.env, List.mem_cons_self, by rw [hf, z]⟩)
  have nF : a ∉ X.fs := fun hm => by
    obtain ⟨e, he, q⟩ := List.mem_filterMap.mp hm
    exact aside (List.mem_filterMap.mpr ⟨e, List.mem_cons_of_mem _ he, q⟩)
  have h00 : X.s_0.heap.get? a = none := by
    cases e : X.s_0.heap.get? a with
    | none => rfl
    | some o =>
      obtain ⟨o', q⟩ := J.base.there a o e (by rw [hex]; exact List.not_mem_nil)
      rw [gI] at q; cases q
  have noCell : ∀ y k, X.env.cells.lookup y = some k → k ≠ a := fun y k e z => by
    obtain ⟨v, o, q, _⟩ := J.cell y k e
    rw [z, gI] at q; cases q
  have noPin : ∀ p ∈ X.pn ++ pins, p.1 ≠ a := fun p hp z => by
    have q := (J.pin p hp).1
    rw [z, gI] at q; cases q
  have S3 := J3.suite he3 hd3 na nL nF
  refine wpAny_handleBy_cons (codeAny_handlers_test ?_) (by intro q; cases q)
  have LT : PySem.W.Looks (model X.prog X.w) h3 (typeOf (.ref a)) cls := fun A Q E s k q => wpAny_typeOf_ref (k _ _ he3) (by rw [hz3.1]; exact q)
  have LM := PySem.W.exm_one (M := model X.prog X.w) (J3.kIn) LT hb1
  have test : ∀ {Q : Value → Shared → Prop} {E : Value → Shared → Prop}, Q c { s' with heap := h3 } → wpAny (model X.prog X.w) (X.A.mark (some (.ref a))) (eval (.Name x np) X.env) Q E { s' with heap := h3 } := fun {Q E} q => by
    obtain ⟨hg, hdbg, hm | ⟨hm, hv, hnn⟩⟩ := hc
    · exact ld_glob (X := X.suite a ((a, oe3) :: (X.pn ++ pins))) S3 hg hm q hdbg
    · exact ld_blt (X := X.suite a ((a, oe3) :: (X.pn ++ pins))) S3 hg hm hv q hnn hdbg
  refine test (LM.here ?_)
  cases b with
  | false =>
    show wpAny _ X.A (handleBy (.ref a) X.env []) _ _ _
    refine wpAny_handleBy_nil ?_
    obtain ⟨k1, k2, k3, oe, vs, T, oT, ts', he, hz, hd, h1, hr⟩ := id fl3
    unfold PySem.passOn
    refine wpAny_bind (wpAny_field he hd h1 ?_)
    rw [if_neg (show ¬ ((Value.ref T == Value.none) = true) from by simp)]
    have fin : wpAny (model X.prog X.w) X.A (setFlight (.ref a) X.env.frame) (fun _ s4 => wpAny (model X.prog X.w) X.A (throw (.ref a) : Sem Flow) (SP X pins D) X.xe s4) X.xe { s' with heap := h3 } := by
      rw [hf]
      refine HandSPX.setFlight_upZ fl3 fun h4 hh4 up4 => wpAny_throw (tk _ _ ?_)
      exact ⟨a, B, sI, pins, σ', H', cls, none, rfl, J, nb, (up.trans up3).trans up4, .inr (.inr (by rw [hs]; exact hh4)), na, os, ag, hno rfl⟩
    first
      | exact wpAny_bind (wpAny_pure (wpAny_bind fin))
      | exact wpAny_bind fin
  | true =>
    refine codeAny_handlers_suite_as (HandSPX.lands_againZ fl3 fun h4 fl4 up4 => ?_)
    have J4 : Inv X pins σ' H' { s' with heap := h4 } := J.landed nb fl4.1 ((up.trans up3).trans up4) os ag
    obtain ⟨oe4, vs4, he4, hz4, hd4⟩ := fl4.there
    have S3' : Inv (X.suite a (X.pn ++ pins)) [] σ' H' { s' with heap := h4 } := suiteM J4 a
    have S4 := show_ (φ := fun h => ∃ (oe : Obj) (vs : Array Value), h.get? a = some oe ∧ Zc cls none oe ∧ oe.data = .fields vs) S3' na h00 nL.symm noCell (fun p hp => noPin p (by rw [List.append_nil] at hp; exact hp)) (exV_ok he4 hz4 hd4)
    refine store_ok (X := X.suite a (X.pn ++ pins)) (v := .ref a) S4 hN hi (.inl hln) rfl (fun s5 S5 => ?_) (.inr hln)
    refine wpAny_mono ((hsu a cls (X.pn ++ pins)).run [] s5 _ _ _ S5 (hyes rfl a na)) (fun f s6 hsp => ?_) (fun _ _ z => False.elim z)
    cases f with
    | next =>
      obtain ⟨σ6, H6, S6, q6⟩ := hsp
      exact gone_ok (unsuiteM S6 ok) hN hi hln fun s7 J8 => ⟨_, _, J8, q6⟩
    | brk => obtain ⟨σ6, H6, S6, q6⟩ := hsp; exact q6.elim
    | cont => obtain ⟨σ6, H6, S6, q6⟩ := hsp; exact q6.elim
    | ret u =>
      obtain ⟨v6, σ6, H6, S6, r6, q6⟩ := hsp
      exact gone_ok (unsuiteM S6 ok) hN hi hln fun s7 J7 => ⟨_, _, _, J7, r6, q6⟩
end
/-! ### defs that are called in an except suite -/
structure FnM (P : Program) (w : World) (K : PySem.W.Frag) (mg : Str → Option Value) (base : Heap) (CX : CXT) (k : Nat) (f : Addr) (fd : FuncData) (ps : List Str) (sp : Sp) : Prop where
  len : ∀ vs H Q E, sp vs H Q E → vs.length = ps.length
  run : ∀ (A : Around) (outer : List Env) (s : Shared) (H : Hp) (args : Args) (us : List Value) (vs : List V) (Q : VK) (E : XK), L2H.RoomH k A → Env0 P w K mg base A outer s H → BindsTo s fd args (ps.zip us) → Vals vs us → sp vs H Q E →
    codeAny (model P w) A (.call (.ref f) args) (CR CX outer P w H s Q E) s
def cxM (CX : CXT) (P : Program) (w : World) (K : PySem.W.Frag) (mg : Str → Option Value) (base : Heap) (N : List Str) (qual : Str) (scope : Scope) (f : Addr) (cd : Value) (A : Around) (outer : List Env) (s : Shared) (H : Hp) (E : XK) : Cx :=
  { cxOf CX P w K mg base N qual scope f cd A outer s H E with calm := false }
theorem inv_startM {CX : CXT} {P : Program} {w : World} {K : PySem.W.Frag} {mg : Str → Option Value} {base : Heap} {N ps : List Str} {qual : Str} {scope : Scope} {f : Addr} {cd : Value} {A : Around} {outer : List Env} {s s1 : Shared} {H : Hp} {E : XK} {us : List Value} {vs : List V}
    (S : FnScope N ps scope) (e0 : Env0 P w K mg base A outer s H) (hl : vs.length = ps.length) (r : Vals vs us)
    (x : InCallC s s.heap.objs.size (bindL (envOfC qual scope s.heap.objs.size f cd).kindOf (ps.zip us) fun _ => none) (cellsFrom (s.heap.objs.size + 1) scope.names []) (bindC (envOfC qual scope s.heap.objs.size f cd).kindOf (ps.zip us) fun _ => none) s1) :
    Inv (cxM CX P w K mg base N qual scope f cd A outer s H E) [] (L2.start N vs) H s1 := by
  have I := inv_start (CX := CX) (E := E) (A := { A with handled := none }) S rfl ⟨e0.frames, e0.mod, e0.bs, e0.bsz, e0.funs, e0.frf, e0.hok, e0.bare⟩ hl r x
  have o := I.ok
  exact ⟨⟨o.mod, o.kind, o.glob, o.blt, o.above, o.inj, o.has, o.cab, fun z => Bool.noConfusion (show false = true from z), Around.frames_deeper e0.frames, o.stk, o.exf, o.bs, o.bsz, o.noex, o.exfs, o.funs, o.frf⟩, I.os, I.bare, I.base, I.loc, I.cell, I.free, I.freeC, I.pin, I.hok, I.len⟩
theorem fn_ofM {P : Program} {w : World} {K : PySem.W.Frag} {mg : Str → Option Value} {base : Heap} {k : Nat} {x qual : Str} {st : Stmt} {f : Addr} {fd : FuncData} {N ps : List Str} {sp : Sp} (F : Fun K x qual st f fd) (S : FnScope N ps (defScope st))
    (len : ∀ vs H Q E, sp vs H Q E → vs.length = ps.length)
    (hbody : ∀ (cdv : Value) (A : Around) (outer : List Env) (s : Shared) (H : Hp) (vs : List V) (Q : VK) (E : XK), L2H.RoomH k (A.deeper (envOfC qual (defScope st) s.heap.objs.size f cdv)) → sp vs H Q E →
      ∃ t, PSs (cxM CX0 P w K mg base N qual (defScope st) f cdv A outer s H E).nox (defBody st) t ∧ t { nx := fun _ H' => Q .non H', rt := Q } (L2.start N vs) H) :
    FnM P w K mg base CX0 (k + 1) f fd ps sp := by
  obtain ⟨oc, od, kV, doc, pm, an, cdv, ct, osl, rfl, lk, hcd⟩ := F.ex
  refine ⟨len, fun A outer s H args us vs Q E hr e0 hb r hsp => ?_⟩
  have KX : K.In s.heap := e0.mod.kin.keeps fun b o e => (e0.bs b o e).1
  refine codeAny_call_function hr.depth (KX _ _ lk) rfl S.co S.gen rfl (PySem.W.codeRec_of KX hcd) (hb _ _ _ _ ?_)
  refine wpAny_newFunctionEnv_cells S.kind (fun ⟨n, v⟩ hy => (S.par n (List.of_mem_zip hy).1).imp id fun q => ⟨q, PySem.W.cellsFrom_some _ _ _ (.inl q)⟩) fun env he s1 x => ?_
  subst he
  refine ⟨(e0.mod.nolimit.keeps fun b o e => (e0.bs b o e).1).keeps x.toInCall.keep, codeAny_func ?_⟩
  obtain ⟨t, ht, hq⟩ := hbody cdv A outer s H vs Q E (hr.deeper _) hsp
  refine wpAny_mono (ht.nox.run [] s1 (L2.start N vs) H _ (inv_startM S e0 (len _ _ _ _ hsp) r x) hq) (fun fl s' hs => ?_) fun e s' hs => hs
  cases fl with
  | ret u =>
    obtain ⟨v, σ', H', J, rv, q⟩ := hs
    exact ⟨v, H', J.os, J.bare, J.base, J.hok, rv, q⟩
  | next =>
    obtain ⟨σ', H', J, q⟩ := hs
    exact ⟨V.non, H', J.os, J.bare, J.base, J.hok, rfl, q⟩
  | brk =>
    obtain ⟨_, _, _, q⟩ := hs
    exact q.elim
  | cont =>
    obtain ⟨_, _, _, q⟩ := hs
    exact q.elim
structure CalM (P : Program) (w : World) (K : PySem.W.Frag) (mg : Str → Option Value) (base : Heap) (k : Nat) (x : Str) (sp : Sp) : Prop where
  ex : ∃ (f : Addr) (fd : FuncData) (ps : List Str), FnM P w K mg base CX0 k f fd ps sp ∧ mg x = some (.ref f) ∧ PySem.W.keepIn K (.ref f) = true ∧ Binds K fd ps []
section
variable {X : Cx} {k j : Nat} {x m : Str} {sp : Sp} {p pos apos : Pos} {e o : Expr} {es : List Expr} {ta : TE} {t : TA}
theorem e_callM (c : CalM X.prog X.w X.K X.mg X.base k x sp) (hr : L2H.RoomH j X.A) (hk : k ≤ j) (hg : Gl X x) (ha : PA X (e :: es) t)
    (hdb : (x == ("__debug__" : Str)) = false := by decide) (he : starEach (e :: es) X.env = (false, eval e X.env) :: starEach es X.env := by rfl) (hpl : (backTo pos (starEach es X.env)).any (·.1) = false := by rfl) :
    PE X (.Call (.Name x p) (e :: es) [] pos) (tCall sp [] E0 t) := by
  obtain ⟨f, fd, ps, F, hm, kp, b⟩ := c.ex
  refine ⟨fun pins s σ H Q I h => ?_⟩
  refine wpAny_Call_Name_kw (ld_glob I hg hm ?_ hdb)
  refine PySem.W.callWith_K (h₀ := X.base) I.ok.mod.kin kp (thn (ha.run pos pins s σ H _ I h) fun us s1 ⟨vs, H1, I1, r, q⟩ => ⟨I1.kIn, ?_⟩) he hpl
  have q : sp vs H1 Q E0 := by
    have q' : sp (vs ++ []) H1 Q E0 := q
    simpa only [List.append_nil] using q'
  have hl : us.length = ps.length := by rw [← r.length]; exact F.len _ _ _ _ q
  have b' := b s1 us I1.kIn (by rw [List.append_nil]; exact hl)
  rw [List.append_nil] at b'
  refine wpAny_call (codeAny_mono (F.run X.A X.stack s1 H1 ⟨us, []⟩ us vs Q E0 (hr.mono hk) I1.env0 b' r q) fun r s' hq => ?_)
  cases r with
  | error e => exact hq.elim
  | ok fl =>
    cases fl with
    | ret u => exact I1.after hq
    | next => exact False.elim hq
    | brk => exact False.elim hq
    | cont => exact False.elim hq
end
theorem hu64M {k : Nat} {A : Around} (r : L2H.RoomH k A) : A.units + 64 < cLine := by have := r.un; omega
theorem hu65M {k : Nat} {A : Around} (r : L2H.RoomH k A) : A.units + 65 < cLine := by have := r.un; omega
/-! ### try -/
def tTryW (K : PySem.W.Frag) (c : Value) (i : Nat) (ts : TS) (tb : WX → TS) : TS := fun D σ H => tb (wValW K c i (fun _ _ => ts) (fun _ _ _ _ => False) D) D σ H
theorem r_tryW {K : PySem.W.Frag} {c : Value} {i : Nat} {ts : TS} {tb : WX → TS} {D : Ends} {σ : L2.St} {H : Hp} (h : tb (wValW K c i (fun _ _ => ts) (fun _ _ _ _ => False) D) D σ H) : tTryW K c i ts tb D σ H := h
theorem w_valW {K : PySem.W.Frag} {c cls : Value} {i : Nat} {ts : TS} {D : Ends} {σ : L2.St} {H : Hp} (hm : PySem.W.exmOne K cls c = some true)
    (h : ∀ a, H a = none → ts { nx := fun σ' H' => D.nx (σ'.set i none) H', rt := D.rt, bk := fun _ _ => False, ct := fun _ _ => False } (σ.set i (some (.ref a))) (upd H a (ExV cls a))) : wValW K c i (fun _ _ => ts) (fun _ _ _ _ => False) D cls none σ H :=
  ⟨rfl, true, hm, fun _ a ha => h a ha, fun z => nomatch z⟩
section
variable {X : Cx} {x n : Str} {c : Value} {i : Nat} {body suite : List Stmt} {b₀ : Stmt} {np pos pos' : Pos} {tb : WX → TS} {ts : TS}
theorem ps_tryW (hs : X.stack = X.env :: X.outer) (hf : X.env.frame = some X.env.locals) (hN : X.N.Nodup) (hi : X.N[i]? = some n) (hln : X.env.kindOf n = some .local) (hc : Names X x c) (hex : X.ex = [])
    (hb : ∀ (W : WX) (pn : List (Addr × Obj)) (xe : Value → Shared → Prop), Takes (X.tr pn xe) W → PassesOwn (model X.prog X.w) X.A X.env xe → PSs (X.tr pn xe) body (tb W))
    (hsu : ∀ (a : Addr) (pn : List (Addr × Obj)), PSs (X.suite a pn) (b₀ :: suite) ts) :
    PS X (.Try body [.ExceptHandler (some (.Name x np)) (some n) (b₀ :: suite) pos'] [] [] pos) (tTryW X.K c i ts tb) :=
  ps_try_valW (tb := tb) (ts := fun _ _ => ts) hs hf hN hi hln hc takes0 hex (fun W pn xe tk po => hb W pn xe tk po) fun a _ pn => hsu a pn
end
end Hm

namespace Hm
open PySem L2
/-! F3m: the reading's steps. kaf_suf: one step; kaf_pre: what stands at an address; tlg_ne: two addresses differ. -/
local macro_rules | `(tactic| tlg_ne) => `(tactic| first
  | with_reducible assumption
  | with_reducible exact Ne.symm (by assumption)
  | (refine' ne_old (by assumption) ?a; (case a => (kaf_pre; done)))
  | (refine' ne_new (by assumption) ?a; (case a => (kaf_pre; done)))
  | fail "tlg_ne")
local macro_rules | `(tactic| kaf_pre) => `(tactic| first
  | with_reducible assumption
  | ((with_reducible refine' upd_at ?a); (case a => rfl))
  | ((first
      | (with_reducible refine' get_new (by assumption) ?b)
      | ((with_reducible refine' get_set ?a ?b); (case a => (tlg_ne; done)))
      | ((with_reducible refine' Keep.get (by assumption) ?a ?b); (case a => (first | assumption | (intro z; exact z.elim) | fail "kaf_pre")))
      | fail "kaf_pre"); (case b => (kaf_pre; done)))
  | ((fail_if_success (with_reducible refine' is_upd ?_)); assumption)
  | ((with_reducible refine' get_setK ?a ?b ?e); (case a => (kaf_pre; done)); (case b => (kaf_pre; done)); (case e => (intro z; cases z; done)))
  | fail "kaf_pre")
local macro_rules | `(tactic| isplit) => `(tactic| first
  | assumption
  | ((with_reducible refine' seq_new (by assumption) ?a); (case a => (isplit; done)))
  | ((with_reducible refine' seq_keep (by assumption) ?a); (case a => (isplit; done))))
local macro_rules | `(tactic| kaf_suf) => `(tactic| first
  | with_reducible refine r_seq ?_
  | with_reducible refine r_asg ?_
  | ((with_reducible refine' r_var ?a ?_); (case a => rfl))
  | with_reducible refine r_c ?_
  | with_reducible refine r_gname ?_
  | with_reducible refine r_op ?_
  | with_reducible refine r_cons ?_
  | with_reducible refine r_nil ?_
  | with_reducible refine r_cb ?_
  | with_reducible refine r_call ?_
  | with_reducible refine r_meth ?_
  | with_reducible refine r_fld ?_
  | with_reducible refine r_if ?_
  | with_reducible refine r_test ?_
  | with_reducible refine r_kB ?_
  | with_reducible refine r_ite_tt ?_
  | with_reducible refine r_ite_ff ?_
  | with_reducible refine r_ite_nt ?_
  | with_reducible refine r_ite_nf ?_
  | ((with_reducible refine' r_iteT' ?a ?_); (case a => first | assumption | rfl | omega))
  | ((with_reducible refine' r_iteF' ?a ?_); (case a => first | assumption | omega))
  | ((with_reducible refine' r_iteNT' ?a ?_); (case a => first | assumption | omega))
  | ((with_reducible refine' r_iteNF' ?a ?_); (case a => first | assumption | rfl | omega))
  | with_reducible refine r_next ?_
  | with_reducible refine r_nx ?_
  | with_reducible refine r_rt ?_
  | with_reducible refine r_bk ?_
  | with_reducible refine r_ct ?_
  | with_reducible refine r_drop ?_
  | with_reducible refine r_ret ?_
  | with_reducible refine v_add ?_
  | with_reducible refine v_sub ?_
  | with_reducible refine v_eq ?_
  | with_reducible refine v_ne ?_
  | with_reducible refine v_lt ?_
  | with_reducible refine v_le ?_
  | with_reducible refine v_gt ?_
  | with_reducible refine v_ge ?_
  | ((with_reducible refine' v_mod ?a ?_); (case a => first | assumption | decide | omega))
  | ((with_reducible refine' v_mul ?a ?_); (case a => first | assumption | decide | omega))
  | ((with_reducible refine' v_div ?a ?_); (case a => first | assumption | decide | omega))
  | ((with_reducible refine' v_pow ?a ?_); (case a => exact ⟨by decide, by decide, by decide⟩))
  | ((with_reducible refine' v_ixL ?a ?b ?_); (case a => (kaf_pre; done)); (case b => (first | assumption | rfl)))
  | ((with_reducible refine' v_ixT ?a ?b ?_); (case a => (kaf_pre; done)); (case b => (first | assumption | rfl)))
  | ((with_reducible refine' v_lenL ?a ?_); (case a => (kaf_pre; done)))
  | ((with_reducible refine' v_lenT ?a ?_); (case a => (kaf_pre; done)))
  | ((with_reducible refine' v_lenK ?a ?_); (case a => (isplit; done)))
  | ((with_reducible refine' v_ixK ?a ?b ?_); (case a => (isplit; done)); (case b => (first | assumption | rfl)))
  | ((with_reducible refine' v_append ?a ?b ?_); (case a => (kaf_pre; done)); (case b => first | assumption | exact few1 (by simp; omega)))
  | ((with_reducible refine' r_krng1 ?a ?_); (case a => first | assumption | decide | omega))
  | with_reducible refine v_int ?_
  | with_reducible refine v_intB ?_
  | with_reducible refine v_max ?_
  | with_reducible refine v_min ?_
  | with_reducible refine r_and ?_
  | with_reducible refine r_or ?_
  | with_reducible refine r_not ?_
  | with_reducible refine r_tup ?_
  | with_reducible refine r_lst ?_
  | ((with_reducible refine' r_ktup ?a ?_); (case a => (simp; done)))
  | ((with_reducible refine' r_klst ?a ?_); (case a => (simp; done)))
  | with_reducible refine r_bm ?_
  | with_reducible refine r_bm0 ?_
  | ((with_reducible refine' r_kbm_l ?a ?_); (case a => (kaf_pre; done)))
  | with_reducible refine r_gsub ?_
  | ((with_reducible refine' v_setL ?a ?b ?_); (case a => (kaf_pre; done)); (case b => first | assumption | rfl))
  | with_reducible refine r_sfld ?_
  | with_reducible refine r_make ?_
  | with_reducible refine r_for ?_
  | with_reducible refine r_rng1 ?_
  | with_reducible refine r_iany ?_
  | ((with_reducible refine' r_kiterL ?a ?_); (case a => (kaf_pre; done)))
  | ((with_reducible refine' r_kiterT ?a ?_); (case a => (kaf_pre; done)))
  | with_reducible refine r_lc ?_
  | with_reducible refine r_yes ?_
  | with_reducible refine r_chain ?_
  | with_reducible refine r_andV ?_
  | with_reducible refine r_orV ?_
  | with_reducible refine r_notV ?_
  | with_reducible refine r_tru ?_
  | with_reducible refine r_tru_bl ?_
  | with_reducible refine r_un ?_
  | with_reducible refine r_rU ?_
  | with_reducible refine r_sl ?_
  | with_reducible refine r_nopart ?_
  | with_reducible refine r_part ?_
  | with_reducible refine r_kI ?_
  | with_reducible refine r_rev ?_
  | with_reducible refine r_lstRg1 ?_
  | with_reducible refine r_krg ?_
  | with_reducible refine v_isN ?_
  | with_reducible refine v_notN ?_
  | with_reducible refine v_isB ?_
  | with_reducible refine v_notB ?_
  | with_reducible refine v_eqS ?_
  | with_reducible refine v_neS ?_
  | ((with_reducible refine' v_isiI ?a ?_); (case a => first | with_reducible exact kit_int_int | with_reducible exact kit_int_bool | with_reducible exact kit_int_list | with_reducible exact kit_int_tuple | with_reducible exact kit_int_str))
  | ((with_reducible refine' v_isiB ?a ?_); (case a => first | with_reducible exact kit_bool_int | with_reducible exact kit_bool_bool | with_reducible exact kit_bool_list | with_reducible exact kit_bool_tuple | with_reducible exact kit_bool_str))
  | ((with_reducible refine' v_isiS ?a ?_); (case a => first | with_reducible exact kit_str_int | with_reducible exact kit_str_bool | with_reducible exact kit_str_list | with_reducible exact kit_str_tuple | with_reducible exact kit_str_str))
  | ((with_reducible refine' v_isiL ?a ?b ?_); (case a => (kaf_pre; done)); (case b => first | with_reducible exact kit_list_int | with_reducible exact kit_list_bool | with_reducible exact kit_list_list | with_reducible exact kit_list_tuple | with_reducible exact kit_list_str))
  | ((with_reducible refine' v_isiT ?a ?b ?_); (case a => (kaf_pre; done)); (case b => first | with_reducible exact kit_tuple_int | with_reducible exact kit_tuple_bool | with_reducible exact kit_tuple_list | with_reducible exact kit_tuple_tuple | with_reducible exact kit_tuple_str))
  | with_reducible refine r_brk ?_
  | with_reducible refine r_cont ?_
  | with_reducible refine r_par ?_
  | with_reducible refine r_par2 ?_
  | with_reducible refine v_abs ?_
  | ((with_reducible refine' v_listL ?a ?_); (case a => (kaf_pre; done)))
  | ((with_reducible refine' v_listT ?a ?_); (case a => (kaf_pre; done)))
  | ((with_reducible refine' v_set ?a ?b ?_); (case a => (kaf_pre; done)); (case b => first | assumption | omega | (simp; omega)))
  | ((with_reducible refine' v_sortedS ?a ?_); (case a => (kaf_pre; done)))
  | ((with_reducible refine' v_sortedL ?a ?_); (case a => (kaf_pre; done)))
  | ((with_reducible refine' v_tupleL ?a ?_); (case a => (kaf_pre; done)))
  | ((with_reducible refine' v_addL ?a ?b ?e ?_); (case a => (kaf_pre; done)); (case b => (kaf_pre; done)); (case e => first | assumption | exact few2 (by simp; omega)))
  | ((with_reducible refine' v_addT ?a ?b ?e ?_); (case a => (kaf_pre; done)); (case b => (kaf_pre; done)); (case e => first | assumption | exact few2 (by simp; omega))))

def top (i : Nat) : Stmt := PySem.Challenge.pw_hotmoves_k19_plain_or_not.main.body.getD i (.Pass ⟨0, 0, 0, 0⟩)
abbrev s_reached : Stmt := top 1
abbrev s_moves_by : Stmt := top 2
abbrev s_behind_right : Stmt := top 3
abbrev s_behind_left : Stmt := top 4
abbrev s_pair_holds : Stmt := top 5
abbrev s_pairs_by : Stmt := top 6
abbrev s_no_less : Stmt := top 7
abbrev s_moves_of : Stmt := top 13
abbrev s_other_side : Stmt := top 14
abbrev s_is_beaten : Stmt := top 15
abbrev s_is_answer : Stmt := top 16
abbrev s_beaten_step : Stmt := top 17
abbrev s_answered_step : Stmt := top 18
abbrev s_positions : Stmt := top 19
abbrev s_is_plain : Stmt := top 20
abbrev s_Book_init : Stmt := inClass (top 22) 0
abbrev s_Book_need : Stmt := inClass (top 22) 1
abbrev s_Book_game : Stmt := inClass (top 22) 2
abbrev s_Book_lefts : Stmt := inClass (top 22) 3
abbrev s_Book_rights : Stmt := inClass (top 22) 4
abbrev s_Book_depth : Stmt := inClass (top 22) 5
abbrev s_Book_many : Stmt := inClass (top 22) 6
abbrev s_law_cell : Stmt := top 24
abbrev s_law_mixed : Stmt := top 25
abbrev s_law_games : Stmt := top 26
abbrev s_law_rows : Stmt := top 27
abbrev s_law_loses : Stmt := top 28
abbrev s_law_no_less : Stmt := top 29
abbrev s_law_positions : Stmt := top 30
abbrev s_law_beaten : Stmt := top 31
abbrev s_law_answers : Stmt := top 32
abbrev s_law_plain : Stmt := top 33
abbrev s_law : Stmt := top 34
structure Cn where
  P : Program
  w : World
  K : PySem.W.Frag
  cGameError : Addr
  cNoGame : Addr
  cBook : Addr
  k_SIDES : Addr
structure Txt (c : Cn) (mg : Str → Option Value) : Prop where
  n_bool : mg "bool" = none
  n_int : mg "int" = none
  n_isinstance : mg "isinstance" = none
  n_len : mg "len" = none
  n_list : mg "list" = none
  n_max : mg "max" = none
  n_min : mg "min" = none
  n_range : mg "range" = none
  n_set : mg "set" = none
  n_sorted : mg "sorted" = none
  n_tuple : mg "tuple" = none
  g_GameError : mg "GameError" = some (.ref c.cGameError)
  g_NoGame : mg "NoGame" = some (.ref c.cNoGame)
  g_Book : mg "Book" = some (.ref c.cBook)
  t_SIDES : mg "SIDES" = some (.ref c.k_SIDES) ∧ (∀ H, SqT c.K H c.k_SIDES [.str "left", .str "right"]) ∧ ∃ o, c.K.lookup c.k_SIDES = some o ∧ o.cls = .type "tuple" ∧ o.dict = none
  cl_Book : Cls c.K c.cBook
  na_Book_depths : NoAttr c.K c.cBook "depths"
  na_Book_moves : NoAttr c.K c.cBook "moves"
  na_Book_numbers : NoAttr c.K c.cBook "numbers"
  F_reached : ∃ (f : Addr) (fd : FuncData), Fun c.K "reached" "reached" s_reached f fd ∧ mg "reached" = some (.ref f) ∧ Binds c.K fd ["book", "g"] []
  F_moves_by : ∃ (f : Addr) (fd : FuncData), Fun c.K "moves_by" "moves_by" s_moves_by f fd ∧ mg "moves_by" = some (.ref f) ∧ Binds c.K fd ["book", "games"] []
  F_behind_right : ∃ (f : Addr) (fd : FuncData), Fun c.K "behind_right" "behind_right" s_behind_right f fd ∧ mg "behind_right" = some (.ref f) ∧ Binds c.K fd ["moves", "known", "r", "y"] []
  F_behind_left : ∃ (f : Addr) (fd : FuncData), Fun c.K "behind_left" "behind_left" s_behind_left f fd ∧ mg "behind_left" = some (.ref f) ∧ Binds c.K fd ["moves", "known", "x", "p"] []
  F_pair_holds : ∃ (f : Addr) (fd : FuncData), Fun c.K "pair_holds" "pair_holds" s_pair_holds f fd ∧ mg "pair_holds" = some (.ref f) ∧ Binds c.K fd ["moves", "known", "x", "y"] []
  F_pairs_by : ∃ (f : Addr) (fd : FuncData), Fun c.K "pairs_by" "pairs_by" s_pairs_by f fd ∧ mg "pairs_by" = some (.ref f) ∧ Binds c.K fd ["book", "g", "h"] []
  F_no_less : ∃ (f : Addr) (fd : FuncData), Fun c.K "no_less" "no_less" s_no_less f fd ∧ mg "no_less" = some (.ref f) ∧ Binds c.K fd ["book", "g", "h"] []
  F_moves_of : ∃ (f : Addr) (fd : FuncData), Fun c.K "moves_of" "moves_of" s_moves_of f fd ∧ mg "moves_of" = some (.ref f) ∧ Binds c.K fd ["book", "g", "side"] []
  F_other_side : ∃ (f : Addr) (fd : FuncData), Fun c.K "other_side" "other_side" s_other_side f fd ∧ mg "other_side" = some (.ref f) ∧ Binds c.K fd ["side"] []
  F_is_beaten : ∃ (f : Addr) (fd : FuncData), Fun c.K "is_beaten" "is_beaten" s_is_beaten f fd ∧ mg "is_beaten" = some (.ref f) ∧ Binds c.K fd ["book", "side", "move", "by"] []
  F_is_answer : ∃ (f : Addr) (fd : FuncData), Fun c.K "is_answer" "is_answer" s_is_answer f fd ∧ mg "is_answer" = some (.ref f) ∧ Binds c.K fd ["book", "side", "g", "a"] []
  F_beaten_step : ∃ (f : Addr) (fd : FuncData), Fun c.K "beaten_step" "beaten_step" s_beaten_step f fd ∧ mg "beaten_step" = some (.ref f) ∧ Binds c.K fd ["book", "g"] []
  F_answered_step : ∃ (f : Addr) (fd : FuncData), Fun c.K "answered_step" "answered_step" s_answered_step f fd ∧ mg "answered_step" = some (.ref f) ∧ Binds c.K fd ["book", "g"] []
  F_positions : ∃ (f : Addr) (fd : FuncData), Fun c.K "positions" "positions" s_positions f fd ∧ mg "positions" = some (.ref f) ∧ Binds c.K fd ["book", "g"] []
  F_is_plain : ∃ (f : Addr) (fd : FuncData), Fun c.K "is_plain" "is_plain" s_is_plain f fd ∧ mg "is_plain" = some (.ref f) ∧ Binds c.K fd ["book", "g"] []
  F_Book_init : ∃ (f : Addr) (fd : FuncData), Fun c.K "__init__" "Book.__init__" s_Book_init f fd ∧ Mk c.K c.cBook f ∧ Binds c.K fd ["self"] []
  F_Book_need : ∃ (f : Addr) (fd : FuncData), Fun c.K "need" "Book.need" s_Book_need f fd ∧ Meth c.K c.cBook "need" f ∧ Binds c.K fd ["self", "g"] []
  F_Book_game : ∃ (f : Addr) (fd : FuncData), Fun c.K "game" "Book.game" s_Book_game f fd ∧ Meth c.K c.cBook "game" f ∧ Binds c.K fd ["self", "lefts", "rights"] []
  F_Book_lefts : ∃ (f : Addr) (fd : FuncData), Fun c.K "lefts" "Book.lefts" s_Book_lefts f fd ∧ Meth c.K c.cBook "lefts" f ∧ Binds c.K fd ["self", "g"] []
  F_Book_rights : ∃ (f : Addr) (fd : FuncData), Fun c.K "rights" "Book.rights" s_Book_rights f fd ∧ Meth c.K c.cBook "rights" f ∧ Binds c.K fd ["self", "g"] []
  F_Book_depth : ∃ (f : Addr) (fd : FuncData), Fun c.K "depth" "Book.depth" s_Book_depth f fd ∧ Meth c.K c.cBook "depth" f ∧ Binds c.K fd ["self", "g"] []
  F_Book_many : ∃ (f : Addr) (fd : FuncData), Fun c.K "many" "Book.many" s_Book_many f fd ∧ Meth c.K c.cBook "many" f ∧ Binds c.K fd ["self"] []
  F_law_cell : ∃ (f : Addr) (fd : FuncData), Fun c.K "_law_cell" "_law_cell" s_law_cell f fd ∧ mg "_law_cell" = some (.ref f) ∧ Binds c.K fd ["script", "k"] []
  F_law_mixed : ∃ (f : Addr) (fd : FuncData), Fun c.K "_law_mixed" "_law_mixed" s_law_mixed f fd ∧ mg "_law_mixed" = some (.ref f) ∧ Binds c.K fd ["cell", "k"] []
  F_law_games : ∃ (f : Addr) (fd : FuncData), Fun c.K "_law_games" "_law_games" s_law_games f fd ∧ mg "_law_games" = some (.ref f) ∧ Binds c.K fd ["book", "script", "start", "many"] []
  F_law_rows : ∃ (f : Addr) (fd : FuncData), Fun c.K "_law_rows" "_law_rows" s_law_rows f fd ∧ mg "_law_rows" = some (.ref f) ∧ Binds c.K fd ["book"] []
  F_law_loses : ∃ (f : Addr) (fd : FuncData), Fun c.K "_law_loses" "_law_loses" s_law_loses f fd ∧ mg "_law_loses" = some (.ref f) ∧ Binds c.K fd ["rows", "g", "h", "right", "told"] []
  F_law_no_less : ∃ (f : Addr) (fd : FuncData), Fun c.K "_law_no_less" "_law_no_less" s_law_no_less f fd ∧ mg "_law_no_less" = some (.ref f) ∧ Binds c.K fd ["rows", "g", "h", "told"] []
  F_law_positions : ∃ (f : Addr) (fd : FuncData), Fun c.K "_law_positions" "_law_positions" s_law_positions f fd ∧ mg "_law_positions" = some (.ref f) ∧ Binds c.K fd ["rows", "g"] []
  F_law_beaten : ∃ (f : Addr) (fd : FuncData), Fun c.K "_law_beaten" "_law_beaten" s_law_beaten f fd ∧ mg "_law_beaten" = some (.ref f) ∧ Binds c.K fd ["rows", "g", "side", "move", "told"] []
  F_law_answers : ∃ (f : Addr) (fd : FuncData), Fun c.K "_law_answers" "_law_answers" s_law_answers f fd ∧ mg "_law_answers" = some (.ref f) ∧ Binds c.K fd ["rows", "g", "side", "move", "told"] []
  F_law_plain : ∃ (f : Addr) (fd : FuncData), Fun c.K "_law_plain" "_law_plain" s_law_plain f fd ∧ mg "_law_plain" = some (.ref f) ∧ Binds c.K fd ["rows", "g", "told"] []
/-! plain pieces of the deck's text, for laws without a deck -/
theorem keep_noneM {M : Addr → Prop} {H H' : Hp} {p : Addr} (k : Keep M H H') (n : ¬ M p) (h : H' p = none) : H p = none := by
  cases e : H p with
  | none => rfl
  | some o => rw [k p o n e] at h; cases h
theorem atI_get {xs : List V} {i : Int} {v : V} {n : Nat} (h : xs[n]? = some v) (e : i = n) : atI xs i = some v := by
  subst e
  have hn : n < xs.length := (List.getElem?_eq_some_iff.mp h).1
  unfold atI ixN
  rw [if_pos (Int.natCast_nonneg n), if_pos (by omega)]
  simpa using h

/-! the book -/
/-- the rising list of the members -/
def ins (x : Int) : List Int → List Int
  | [] => [x]
  | y :: r => if x < y then x :: y :: r else if x = y then y :: r else y :: ins x r
def canon (l : List Int) : List Int := l.foldr ins []
theorem ins_mem {x z : Int} : ∀ {l : List Int}, z ∈ ins x l ↔ z = x ∨ z ∈ l
  | [] => by simp [ins]
  | y :: r => by
    unfold ins
    split
    · simp
    · split
      · rename_i e; subst e; simp
      · rw [List.mem_cons, ins_mem, List.mem_cons]; constructor
        · rintro (h | h | h) <;> simp [h]
        · rintro (h | h | h) <;> simp [h]
theorem ins_up {x : Int} : ∀ {l : List Int}, l.Pairwise (· < ·) → (ins x l).Pairwise (· < ·)
  | [], _ => by simp [ins]
  | y :: r, h => by
    have h' := List.pairwise_cons.mp h
    unfold ins
    split
    · rename_i lt
      refine List.pairwise_cons.mpr ⟨fun z hz => ?_, h⟩
      rcases List.mem_cons.mp hz with e | hz
      · omega
      · have := h'.1 z hz; omega
    · split
      · exact h
      · refine List.pairwise_cons.mpr ⟨fun z hz => ?_, ins_up h'.2⟩
        rcases ins_mem.mp hz with e | hz
        · omega
        · exact h'.1 z hz
theorem canon_mem {z : Int} : ∀ {l : List Int}, z ∈ canon l ↔ z ∈ l
  | [] => by simp [canon]
  | y :: r => by
    show z ∈ ins y (canon r) ↔ _
    rw [ins_mem, canon_mem, List.mem_cons]
theorem canon_up : ∀ (l : List Int), (canon l).Pairwise (· < ·)
  | [] => List.Pairwise.nil
  | y :: r => ins_up (canon_up r)
theorem up_eq : ∀ {a b : List Int}, a.Pairwise (· < ·) → b.Pairwise (· < ·) → (∀ z, z ∈ a ↔ z ∈ b) → a = b
  | [], [], _, _, _ => rfl
  | [], y :: r, _, _, h => absurd ((h y).mpr List.mem_cons_self) (by simp)
  | x :: a, [], _, _, h => absurd ((h x).mp List.mem_cons_self) (by simp)
  | x :: a, y :: b, ha, hb, h => by
    have ha' := List.pairwise_cons.mp ha
    have hb' := List.pairwise_cons.mp hb
    have e : x = y := by
      rcases List.mem_cons.mp ((h x).mp List.mem_cons_self) with e | h1
      · exact e
      · rcases List.mem_cons.mp ((h y).mpr List.mem_cons_self) with e | h2
        · exact e.symm
        · have := hb'.1 x h1; have := ha'.1 y h2; omega
    subst e
    refine congrArg (x :: ·) (up_eq ha'.2 hb'.2 fun z => ⟨fun hz => ?_, fun hz => ?_⟩)
    · rcases List.mem_cons.mp ((h z).mp (List.mem_cons_of_mem _ hz)) with e | h1
      · have := ha'.1 z hz; omega
      · exact h1
    · rcases List.mem_cons.mp ((h z).mpr (List.mem_cons_of_mem _ hz)) with e | h1
      · have := hb'.1 z hz; omega
      · exact h1
theorem canon_eq {l ns : List Int} (h1 : ns.Pairwise (· < ·)) (h2 : ∀ z, z ∈ ns ↔ z ∈ l) : ns = canon l := up_eq h1 (canon_up l) fun z => by rw [h2, canon_mem]
theorem ins_len (x : Int) : ∀ (l : List Int), (ins x l).length ≤ l.length + 1
  | [] => by simp [ins]
  | y :: r => by
    have := ins_len x r
    unfold ins
    split
    · simp
    · split
      · simp
      · simp only [List.length_cons]; omega
theorem canon_len' : ∀ (l : List Int), (canon l).length ≤ l.length
  | [] => by simp [canon]
  | y :: r => by
    have h1 := canon_len' r
    have h2 := ins_len y (canon r)
    show (ins y (canon r)).length ≤ _
    simp only [List.length_cons]; omega
theorem canon_self {l : List Int} (h : l.Pairwise (· < ·)) : canon l = l := (canon_eq h fun _ => Iff.rfl).symm
/-- a game: left's moves, right's -/
abbrev Gm := List Int × List Int
def gkey (g : Gm) : NestedKey := .tup [.tup (g.1.map .num), .tup (g.2.map .num)]
theorem num_inj : ∀ {a b : List Int}, a.map NestedKey.num = b.map NestedKey.num → a = b
  | [], [], _ => rfl
  | [], _ :: _, h => by simp at h
  | _ :: _, [], h => by simp at h
  | x :: a, y :: b, h => by
    rw [List.map_cons, List.map_cons] at h
    injection h with h1 h2
    injection h1 with h1
    rw [h1, num_inj h2]
theorem gkey_inj {a b : Gm} (h : gkey a = gkey b) : a = b := by
  unfold gkey at h
  injection h with h
  injection h with h1 h2
  injection h1 with h1
  injection h2 with h2 _
  injection h2 with h2
  exact Prod.ext (num_inj h1) (num_inj h2)
/-- the depths of the moves -/
def dps (ds ms : List Int) : List Int := ms.map fun m => ds[m.toNat]?.getD 0
def deepest (ds : List Int) (ms : List Int) (d : Int) : Prop := (ms = [] → d = 0) ∧ (∀ x ∈ dps ds ms, x + 1 ≤ d) ∧ (ms ≠ [] → ∃ x ∈ dps ds ms, d = x + 1)
theorem dps_more {ds e ms : List Int} (h : ∀ m ∈ ms, 0 ≤ m ∧ m < ds.length) : dps (ds ++ e) ms = dps ds ms := by
  refine List.map_congr_left fun m hm => ?_
  obtain ⟨h1, h2⟩ := h m hm
  rw [List.getElem?_append_left (by omega)]
/-- what holds of a book's games -/
structure GOk (gs : List Gm) : Prop where
  zero : gs[0]? = some ([], [])
  nd : gs.Nodup
  up : ∀ g ∈ gs, g.1.Pairwise (· < ·) ∧ g.2.Pairwise (· < ·)
  low : ∀ (i : Nat) (g : Gm), gs[i]? = some g → ∀ m ∈ g.1 ++ g.2, 0 ≤ m ∧ m < i
/-- the depths -/
structure DOk (gs : List Gm) (ds : List Int) : Prop where
  len : ds.length = gs.length
  at_ : ∀ (i : Nat) (g : Gm) (d : Int), gs[i]? = some g → ds[i]? = some d → deepest ds (g.1 ++ g.2) d
def bookFs (mv nm dp : Addr) : List (Str × V) := [("moves", .ref mv), ("numbers", .ref nm), ("depths", .ref dp)]
theorem bookFs_moves {mv nm dp : Addr} : (bookFs mv nm dp).lookup ("moves" : Str) = some (.ref mv) := by rfl
theorem bookFs_numbers {mv nm dp : Addr} : (bookFs mv nm dp).lookup ("numbers" : Str) = some (.ref nm) := by rfl
theorem bookFs_depths {mv nm dp : Addr} : (bookFs mv nm dp).lookup ("depths" : Str) = some (.ref dp) := by rfl
theorem bookFs_need {mv nm dp : Addr} : (bookFs mv nm dp).lookup ("need" : Str) = none := by rfl
theorem bookFs_game {mv nm dp : Addr} : (bookFs mv nm dp).lookup ("game" : Str) = none := by rfl
theorem bookFs_lefts {mv nm dp : Addr} : (bookFs mv nm dp).lookup ("lefts" : Str) = none := by rfl
theorem bookFs_rights {mv nm dp : Addr} : (bookFs mv nm dp).lookup ("rights" : Str) = none := by rfl
theorem bookFs_depth {mv nm dp : Addr} : (bookFs mv nm dp).lookup ("depth" : Str) = none := by rfl
theorem bookFs_many {mv nm dp : Addr} : (bookFs mv nm dp).lookup ("many" : Str) = none := by rfl
/-- the tuple at t is the game g -/
def GAt (H : Hp) (t : Addr) (g : Gm) : Prop := ∃ a b, H t = some (.tup [.ref a, .ref b]) ∧ H a = some (.tup (g.1.map V.int)) ∧ H b = some (.tup (g.2.map V.int))
structure BookAt (c : Cn) (H : Hp) (b : Addr) (M : Addr → Prop) (gs : List Gm) (ds : List Int) : Prop where
  ok : GOk gs
  dok : DOk gs ds
  ex : ∃ (dx mv nm dp : Addr) (ts : List Addr) (xs : List NX), H b = some (.ins c.cBook dx (bookFs mv nm dp)) ∧ H mv = some (.lst (ts.map V.ref)) ∧ Paired (GAt H) ts gs ∧
    NdAt c.P c.w H nm xs ∧ xs.length = gs.length ∧ (∀ g : Gm, nval xs (gkey g) = if g ∈ gs then some (V.int (gs.idxOf g)) else none) ∧ H dp = some (.lst (ds.map V.int)) ∧
    M mv ∧ M nm ∧ M dp ∧ mv ≠ dp ∧ ∀ x, M x → x = mv ∨ x = nm ∨ x = dp
theorem BookAt.ins_ {c : Cn} {H : Hp} {b : Addr} {M : Addr → Prop} {gs : List Gm} {ds : List Int} (B : BookAt c H b M gs ds) : ∃ dx mv nm dp, H b = some (.ins c.cBook dx (bookFs mv nm dp)) := by
  obtain ⟨dx, mv, nm, dp, _, _, h, _⟩ := B.ex
  exact ⟨dx, mv, nm, dp, h⟩
theorem paired_get {α β : Type} {R : α → β → Prop} : ∀ {xs : List α} {ys : List β} {i : Nat} {y : β}, Paired R xs ys → ys[i]? = some y → ∃ x, xs[i]? = some x ∧ R x y
  | _, _, _, _, .nil, h => by simp at h
  | _, _, 0, _, .cons r _, h => by simp at h; subst h; exact ⟨_, rfl, r⟩
  | _, _, i + 1, _, .cons _ t, h => by
    obtain ⟨x, h1, h2⟩ := paired_get (i := i) t (by simpa using h)
    exact ⟨x, by simpa using h1, h2⟩
theorem paired_keep {α β : Type} {R S : α → β → Prop} {xs : List α} {ys : List β} (h : Paired R xs ys) (f : ∀ a b, R a b → S a b) : Paired S xs ys := Paired.mapP h f
theorem GAt.keep {H H' : Hp} {t : Addr} {g : Gm} (h : GAt H t g) (k : ∀ b xs, H b = some (.tup xs) → H' b = some (.tup xs)) : GAt H' t g := by
  obtain ⟨a, b, h1, h2, h3⟩ := h
  exact ⟨a, b, k _ _ h1, k _ _ h2, k _ _ h3⟩
section
variable {c : Cn} {H H' : Hp} {b : Addr} {M N : Addr → Prop} {gs : List Gm} {ds : List Int}
theorem BookAt.cell (B : BookAt c H b M gs ds) {x : Addr} (h : M x) : (∃ l, H x = some (.lst l)) ∨ ∃ φ, H x = some (.ext φ) := by
  obtain ⟨dx, mv, nm, dp, ts, xs, _, h2, _, h4, _, _, h7, _, _, _, _, h8⟩ := B.ex
  rcases h8 x h with rfl | rfl | rfl
  · exact .inl ⟨_, h2⟩
  · exact .inr ⟨_, h4.here⟩
  · exact .inl ⟨_, h7⟩
theorem BookAt.new (B : BookAt c H b M gs ds) {x : Addr} (h : H x = none) : ¬ M x := fun z => by
  rcases B.cell z with ⟨_, e⟩ | ⟨_, e⟩ <;> rw [h] at e <;> cases e
theorem BookAt.tupN (B : BookAt c H b M gs ds) {x : Addr} {l : List V} (h : H x = some (.tup l)) : ¬ M x := fun z => by
  rcases B.cell z with ⟨_, e⟩ | ⟨_, e⟩ <;> rw [h] at e <;> cases e
theorem BookAt.insN (B : BookAt c H b M gs ds) {x C dx : Addr} {l : List (Str × V)} (h : H x = some (.ins C dx l)) : ¬ M x := fun z => by
  rcases B.cell z with ⟨_, e⟩ | ⟨_, e⟩ <;> rw [h] at e <;> cases e
theorem BookAt.keep (B : BookAt c H b M gs ds) (k : Keep N H H') (n : ∀ x, N x → ∃ l, H x = some (.lst l)) (d : ∀ x, M x → ¬ N x) : BookAt c H' b M gs ds := by
  obtain ⟨dx, mv, nm, dp, ts, xs, h1, h2, h3, h4, h5, h6, h7, m1, m2, m3, ne, h8⟩ := B.ex
  have kt : ∀ q ys, H q = some (.tup ys) → H' q = some (.tup ys) := fun q ys e => k _ _ (fun z => by obtain ⟨l, e'⟩ := n q z; rw [e] at e'; cases e') e
  refine ⟨B.ok, B.dok, dx, mv, nm, dp, ts, xs, k _ _ (fun z => ?_) h1, k _ _ (d _ m1) h2, paired_keep h3 fun t g q => q.keep kt, ⟨k _ _ (d _ m2) h4.here, fun x hx => ⟨NkV.keeps kt _ _ (h4.keys x hx).1, (h4.keys x hx).2⟩⟩, h5, h6, k _ _ (d _ m3) h7, m1, m2, m3, ne, h8⟩
  obtain ⟨l, e'⟩ := n b z; rw [h1] at e'; cases e'
theorem BookAt.same (B : BookAt c H b M gs ds) (k : Keep Nil H H') : BookAt c H' b M gs ds := B.keep k (fun _ z => z.elim) fun _ _ z => z
theorem BookAt.pos (B : BookAt c H b M gs ds) : 0 < gs.length := by
  have := B.ok.zero
  exact (List.getElem?_eq_some_iff.mp this).1
end
local macro_rules | `(tactic| kaf_suf) => `(tactic| first
  | ((with_reducible refine' r_kfld ?a (Txt.cl_Book (by assumption)) (Txt.na_Book_moves (by assumption)) bookFs_moves ?_); (case a => (kaf_pre; done)))
  | ((with_reducible refine' r_kfld ?a (Txt.cl_Book (by assumption)) (Txt.na_Book_numbers (by assumption)) bookFs_numbers ?_); (case a => (kaf_pre; done)))
  | ((with_reducible refine' r_kfld ?a (Txt.cl_Book (by assumption)) (Txt.na_Book_depths (by assumption)) bookFs_depths ?_); (case a => (kaf_pre; done)))
  | ((with_reducible refine' r_kmeth ?a ?b ?_); (case a => (kaf_pre; done)); (case b => (first | exact bookFs_need | exact bookFs_game | exact bookFs_lefts | exact bookFs_rights | exact bookFs_depth | exact bookFs_many))))

abbrev N_Book_need : List Str := ["self", "g"]
theorem sc_Book_need : FnScope N_Book_need ["self", "g"] (defScope s_Book_need) := ⟨rfl, rfl, rfl, by decide +kernel, rfl, by decide +kernel, by decide +kernel⟩
def t_Book_need (c : Cn) : TS :=
  (tIfS (tOr (tNot (tTru c.K (tCB (rIsi c.K) (tCons (tVar 1) (tCons (tC (.ty "int")) tNil))))) (tOr (tTru c.K (tCB (rIsi c.K) (tCons (tVar 1) (tCons (tC (.ty "bool")) tNil)))) (tOr (tTest (tOp (cLt c.K) (tVar 1) (tC (.int 0)))) (tTest (tOp cGe (tVar 1) (tCB (kLen c.K) (tCons (tFld c.K (tVar 0) "moves") tNil)))))))
  tNever
  tNext)
def sp_Book_need (c : Cn) : Sp := fun vs H Q E => vs.length = 2 ∧ ∃ (b : Addr) (M : Addr → Prop) (gs : List Gm) (ds : List Int) (g : Int), vs = [.ref b, .int g] ∧ BookAt c H b M gs ds ∧ 0 ≤ g ∧ g < gs.length ∧ Q .non H
theorem p_Book_need {c : Cn} {mg : Str → Option Value} (T : Txt c mg) {vs : List V} {H : Hp} {Q : VK} {E : XK} (h : sp_Book_need c vs H Q E) : t_Book_need c { nx := fun _ H' => Q .non H', rt := Q } (start N_Book_need vs) H := by
  obtain ⟨_, b, M, gs, ds, g, rfl, B, g0, g1, k⟩ := h
  obtain ⟨dx, mv, nm, dp, ts, xs, h1, h2, h3, h4, h5, h6, h7, m1, m2, m3, ne, h8⟩ := B.ex
  have hl : ((ts.map V.ref).length : Int) = gs.length := by rw [List.length_map, Paired.length h3]
  unfold t_Book_need
  repeat kaf_suf
  exact k
theorem met_Book_need {c : Cn} {mg : Str → Option Value} {base : Heap} (T : Txt c mg) : Met c.P c.w c.K mg base CX0 1 c.cBook "need" (sp_Book_need c) := by
  obtain ⟨f, fd, F, g, b⟩ := T.F_Book_need
  exact ⟨f, fd, ["self", "g"], T.cl_Book, g, F.ok (k := 0) (N := N_Book_need) sc_Book_need (fun vs H Q E h => h.1) (fun cdv A outer s H vs Q E hr h => ⟨t_Book_need c, by
  exact (pss_one (ps_if (PW.pt (pw_or (pt_not (p_tru (pe_callB k_isi (by rfl) T.n_isinstance (by decide +kernel) (pa_cons (pv 1) (pa_cons (pe_bltn rfl T.n_int (by decide +kernel) rfl) pa_nil))))) (pw_or (p_tru (pe_callB k_isi (by rfl) T.n_isinstance (by decide +kernel) (pa_cons (pv 1) (pa_cons (pe_bltn rfl T.n_bool (by decide +kernel) rfl) pa_nil)))) (pw_or (pt_cmpR (o_lt (hu64 hr)) (pv 1) pe_int (nomark _)) (pw_or1 (pt_cmpR o_ge (pv 1) (pe_callB k_len (by rfl) T.n_len (by decide +kernel) (pa_cons (pe_fld (pv 0) rfl) pa_nil)) (nomark _))))))) (pss_one ps_never) pss_nil)), p_Book_need T h⟩), b⟩
/-! the games behind a putting -/
def addG (gs : List Gm) (k : Gm) : List Gm := if k ∈ gs then gs else gs ++ [k]
def ixG (gs : List Gm) (k : Gm) : Nat := gs.idxOf k
theorem nk_nums {H : Hp} : ∀ (l : List Int), NkVs H (l.map .num) (l.map V.int)
  | [] => by simp [NkVs]
  | x :: r => by
    simp only [List.map_cons, NkVs]
    exact ⟨_, _, rfl, by simp [NkV], nk_nums r⟩
theorem GAt.nk {H : Hp} {t : Addr} {g : Gm} (h : GAt H t g) : NkV H (gkey g) (.ref t) := by
  obtain ⟨a, b, h1, h2, h3⟩ := h
  unfold gkey
  simp only [NkV]
  refine ⟨t, _, rfl, h1, ?_⟩
  simp only [NkVs, NkV]
  exact ⟨_, _, rfl, ⟨a, _, rfl, h2, nk_nums _⟩, _, _, rfl, ⟨b, _, rfl, h3, nk_nums _⟩, rfl⟩
theorem dep_nums : ∀ (l : List Int), NestedKey.depthAll (l.map .num) ≤ 0
  | [] => by simp [NestedKey.depthAll]
  | x :: r => by
    have := dep_nums r
    simp only [List.map_cons, NestedKey.depthAll, NestedKey.depth]; omega
theorem gkey_depth (g : Gm) : (gkey g).depth ≤ 8 := by
  have h1 := dep_nums g.1
  have h2 := dep_nums g.2
  unfold gkey
  simp only [NestedKey.depth, NestedKey.depthAll]; omega
theorem nd_neL {P : Program} {w : World} {H : Hp} {a x : Addr} {xs : List NX} {l : List V} (N : NdAt P w H a xs) (h : H x = some (.lst l)) : x ≠ a := fun z => by
  rw [z, N.here] at h; unfold NdO at h; cases Option.some.inj h
theorem nd_neT {P : Program} {w : World} {H : Hp} {a x : Addr} {xs : List NX} {l : List V} (N : NdAt P w H a xs) (h : H x = some (.tup l)) : x ≠ a := fun z => by
  rw [z, N.here] at h; unfold NdO at h; cases Option.some.inj h
theorem nd_neI {P : Program} {w : World} {H : Hp} {a x C dx : Addr} {xs : List NX} {l : List (Str × V)} (N : NdAt P w H a xs) (h : H x = some (.ins C dx l)) : x ≠ a := fun z => by
  rw [z, N.here] at h; unfold NdO at h; cases Option.some.inj h
theorem lt_ne {H : Hp} {a x : Addr} {l m : List V} (N : H a = some (.lst m)) (h : H x = some (.tup l)) : x ≠ a := fun z => by
  rw [z, N] at h; cases h
theorem li_ne {H : Hp} {a x C dx : Addr} {l : List (Str × V)} {m : List V} (N : H a = some (.lst m)) (h : H x = some (.ins C dx l)) : x ≠ a := fun z => by
  rw [z, N] at h; cases h
theorem nput_new {xs : List NX} {k : NestedKey} {a : Addr} {v : V} (h : nval xs k = none) : nput xs k a v = xs ++ [(k, a, v)] := by
  unfold nput; rw [h]; rfl
theorem nval_snoc {xs : List NX} {k k' : NestedKey} {a : Addr} {v : V} : nval (xs ++ [(k, a, v)]) k' = (nval xs k').or (if k = k' then some v else none) := by
  unfold nval
  rw [List.find?_append]
  cases e : xs.find? fun x => decide (x.1 = k') with
  | some q => simp
  | none =>
    by_cases h : k = k'
    · simp [h]
    · simp [h]
theorem v_ninN {P : Program} {w : World} {K : PySem.W.Frag} {H : Hp} {Q : VK} {p a : Addr} {k : NestedKey} {xs : List NX} (N : NdAt P w H a xs) (kp : NkV H k (.ref p)) (d : k.depth ≤ 8) (q : Q (.bl (!(nval xs k).isSome)) H) : cNotIn P w K (.ref p) (.ref a) H Q := by
  refine .inr (.inr (.inr (.inr ⟨a, p, k, xs, rfl, rfl, N, kp, d, ?_⟩)))
  simpa using q
theorem v_inN {P : Program} {w : World} {K : PySem.W.Frag} {H : Hp} {Q : VK} {p a : Addr} {k : NestedKey} {xs : List NX} (N : NdAt P w H a xs) (kp : NkV H k (.ref p)) (d : k.depth ≤ 8) (q : Q (.bl (nval xs k).isSome) H) : cIn P w K (.ref p) (.ref a) H Q := by
  refine .inr (.inr (.inr (.inr ⟨a, p, k, xs, rfl, rfl, N, kp, d, ?_⟩)))
  simpa using q
theorem v_ixN {P : Program} {w : World} {K : PySem.W.Frag} {H : Hp} {Q : VK} {p a : Addr} {k : NestedKey} {xs : List NX} {v : V} (N : NdAt P w H a xs) (kp : NkV H k (.ref p)) (d : k.depth ≤ 8) (e : nval xs k = some v) (q : Q v H) : bIx P w K (.ref a) (.ref p) H Q :=
  .inr (.inr (.inr (.inr ⟨a, p, k, xs, v, rfl, rfl, N, kp, d, e, q⟩)))
theorem v_setN {P : Program} {w : World} {H : Hp} {Q : Hp → Prop} {p a : Addr} {k : NestedKey} {xs : List NX} {v : V} (N : NdAt P w H a xs) (kp : NkV H k (.ref p)) (d : k.depth ≤ 8) (l : xs.length < sizeLine) (q : Q (upd H a (NdO P w a (nput xs k p v)))) : bSet P w (.ref a) (.ref p) v H Q :=
  .inr (.inr ⟨a, p, k, xs, rfl, rfl, N, kp, d, l, q⟩)
theorem GOk.add {gs : List Gm} (o : GOk gs) {ls rs : List Int} (h : ∀ m ∈ ls ++ rs, 0 ≤ m ∧ m < gs.length) : GOk (addG gs (canon ls, canon rs)) := by
  unfold addG
  split
  · exact o
  · rename_i ni
    have pos : 0 < gs.length := (List.getElem?_eq_some_iff.mp o.zero).1
    refine ⟨?_, ?_, fun g hg => ?_, fun i g hi m hm => ?_⟩
    · rw [List.getElem?_append_left pos]; exact o.zero
    · refine List.nodup_append.mpr ⟨o.nd, by simp, fun a ha b hb => ?_⟩
      cases List.mem_singleton.mp hb
      exact fun z => ni (z ▸ ha)
    · rcases List.mem_append.mp hg with hg | hg
      · exact o.up g hg
      · cases List.mem_singleton.mp hg
        exact ⟨canon_up _, canon_up _⟩
    · by_cases lt : i < gs.length
      · rw [List.getElem?_append_left lt] at hi
        exact o.low i g hi m hm
      · have hl := (List.getElem?_eq_some_iff.mp hi).1
        have e : i = gs.length := by rw [List.length_append] at hl; simp at hl; omega
        subst e
        rw [List.getElem?_append_right (Nat.le_refl _)] at hi
        simp at hi
        subst hi
        rw [List.mem_append, canon_mem, canon_mem, ← List.mem_append] at hm
        exact h m hm
theorem DOk.add {gs : List Gm} {ds : List Int} (d : DOk gs ds) (o : GOk gs) {k : Gm} (h : ∀ m ∈ k.1 ++ k.2, 0 ≤ m ∧ m < gs.length) (ne : k.1 ++ k.2 ≠ []) {m : Int} (hm : m ∈ dps ds (k.1 ++ k.2)) (hx : ∀ x ∈ dps ds (k.1 ++ k.2), x ≤ m) : DOk (gs ++ [k]) (ds ++ [1 + m]) := by
  refine ⟨by simp [d.len], fun i g e hg he => ?_⟩
  by_cases lt : i < gs.length
  · rw [List.getElem?_append_left lt] at hg
    rw [List.getElem?_append_left (by rw [d.len]; exact lt)] at he
    have b : ∀ m ∈ g.1 ++ g.2, 0 ≤ m ∧ m < ds.length := fun m hm => by have := o.low i g hg m hm; rw [d.len]; omega
    unfold deepest
    rw [dps_more b]
    exact d.at_ i g e hg he
  · have hl := (List.getElem?_eq_some_iff.mp hg).1
    have e : i = gs.length := by rw [List.length_append] at hl; simp at hl; omega
    subst e
    rw [List.getElem?_append_right (Nat.le_refl _)] at hg
    rw [← d.len, List.getElem?_append_right (Nat.le_refl _)] at he
    simp at hg he
    subst hg he
    unfold deepest
    rw [dps_more (by rw [d.len]; exact h)]
    exact ⟨fun z => absurd z ne, fun x q => by have := hx x q; omega, fun _ => ⟨m, hm, by omega⟩⟩
theorem ixG_get {gs : List Gm} {k : Gm} (h : k ∈ gs) : gs[ixG gs k]? = some k := by
  have l := List.idxOf_lt_length_of_mem h
  rw [ixG, List.getElem?_eq_getElem l, List.getElem_idxOf l]
theorem addG_mem (gs : List Gm) (k : Gm) : k ∈ addG gs k := by
  unfold addG; split
  · assumption
  · simp
theorem addG_len {gs : List Gm} {k : Gm} : (addG gs k).length ≤ gs.length + 1 ∧ gs.length ≤ (addG gs k).length := by
  unfold addG; split <;> simp
theorem addG_get {gs : List Gm} {k g : Gm} {i : Nat} (h : gs[i]? = some g) : (addG gs k)[i]? = some g := by
  unfold addG; split
  · exact h
  · rw [List.getElem?_append_left (List.getElem?_eq_some_iff.mp h).1]; exact h
abbrev N_Book_game : List Str := ["self", "lefts", "rights", "g", "key"]
theorem sc_Book_game : FnScope N_Book_game ["self", "lefts", "rights"] (defScope s_Book_game) := ⟨rfl, rfl, rfl, by decide +kernel, rfl, by decide +kernel, by decide +kernel⟩
def t_Book_game (c : Cn) : TS :=
  (tSeq (tFor (iAny c.K (tOp (bAdd c.K) (tCB (kList c.K) (tCons (tVar 1) tNil)) (tCB (kList c.K) (tCons (tVar 2) tNil)))) (gName 3)
  (tDrop (tMeth c.cBook "need" (sp_Book_need c) [] E0 (tVar 0) (tCons (tVar 3) tNil))))
  (tSeq (tAsg (tTup (tCons (tCB (kTuple c.K) (tCons (tCB (kSorted c.K c.w) (tCons (tCB (uSetI c.K c.w) (tCons (tVar 1) tNil)) tNil)) tNil)) (tCons (tCB (kTuple c.K) (tCons (tCB (kSorted c.K c.w) (tCons (tCB (uSetI c.K c.w) (tCons (tVar 2) tNil)) tNil)) tNil)) tNil))) (gName 4))
  (C8.tCut (tIfS (tTest (tOp (cNotIn c.P c.w c.K) (tVar 4) (tFld c.K (tVar 0) "numbers")))
  (tSeq (tAsg (tCB (kLen c.K) (tCons (tFld c.K (tVar 0) "moves") tNil)) (gSub (tFld c.K (tVar 0) "numbers") (tVar 4) (bSet c.P c.w)))
  (tSeq (tDrop (tBM c.K "list" rAppend (tFld c.K (tVar 0) "moves") (tCons (tVar 4) tNil)))
  (tDrop (tBM c.K "list" rAppend (tFld c.K (tVar 0) "depths") (tCons (tOp (bAdd c.K) (tC (.int 1)) (tCB (kMax c.K) (tCons (tLc (iAny c.K (tOp (bAdd c.K) (tOp (bIx c.P c.w c.K) (tVar 4) (tC (.int 0))) (tOp (bIx c.P c.w c.K) (tVar 4) (tC (.int 1))))) (gName 3) tYes (tOp (bIx c.P c.w c.K) (tFld c.K (tVar 0) "depths") (tVar 3)) [3]) tNil))) tNil)))))
  tNext)
  (tRet (tOp (bIx c.P c.w c.K) (tFld c.K (tVar 0) "numbers") (tVar 4))))))
def sp_Book_game (c : Cn) : Sp := fun vs H Q E => vs.length = 3 ∧ ∃ (b l r : Addr) (M : Addr → Prop) (gs : List Gm) (ds ls rs : List Int), vs = [.ref b, .ref l, .ref r] ∧ BookAt c H b M gs ds ∧ H l = some (.lst (ls.map V.int)) ∧ H r = some (.lst (rs.map V.int)) ∧ ¬ M l ∧ ¬ M r ∧
  gs.length ≤ 90000 ∧ ls.length ≤ 4000 ∧ rs.length ≤ 4000 ∧ (∀ m ∈ ls ++ rs, 0 ≤ m ∧ m < gs.length) ∧
  ∀ (H' : Hp) (e : List Int), Keep M H H' → BookAt c H' b M (addG gs (canon ls, canon rs)) (ds ++ e) → Q (.int (ixG (addG gs (canon ls, canon rs)) (canon ls, canon rs))) H'
theorem p_Book_game {c : Cn} {mg : Str → Option Value} (T : Txt c mg) {vs : List V} {H : Hp} {Q : VK} {E : XK} (h : sp_Book_game c vs H Q E) : t_Book_game c { nx := fun _ H' => Q .non H', rt := Q } (start N_Book_game vs) H := by
  obtain ⟨_, b, l, r, M, gs, ds, ls, rs, rfl, B, hl, hr, nl, nr, fw1, fw2, fw3, low, k⟩ := h
  unfold t_Book_game
  repeat kaf_suf
  intro p1 hp1
  repeat kaf_suf
  intro p2 hp2
  repeat kaf_suf
  intro p3 hp3
  repeat kaf_suf
  have kp3 : Keep Nil H (upd (upd (upd H p1 (.lst (ls.map V.int))) p2 (.lst (rs.map V.int))) p3 (.lst (ls.map V.int ++ rs.map V.int))) := ((Keep.alloc hp1).new hp2).new hp3
  have B3 := B.same kp3
  have hl3 := kp3.get (fun z => z) hl
  have hr3 := kp3.get (fun z => z) hr
  have h3 : upd (upd (upd H p1 (.lst (ls.map V.int))) p2 (.lst (rs.map V.int))) p3 (.lst (ls.map V.int ++ rs.map V.int)) p3 = some (.lst (ls.map V.int ++ rs.map V.int)) := upd_same
  generalize hH3 : upd (upd (upd H p1 (.lst (ls.map V.int))) p2 (.lst (rs.map V.int))) p3 (.lst (ls.map V.int ++ rs.map V.int)) = H3 at kp3 B3 hl3 hr3 h3 ⊢
  refine for_list (xs := ls.map V.int ++ rs.map V.int) (fun i σ H' => H' = H3 ∧ ∃ y, σ = [some (.ref b), some (.ref l), some (.ref r), y, none]) ⟨rfl, _, rfl⟩ ?_ ?_ ?_
  · rintro i σ H' hi ⟨rfl, y, rfl⟩; exact SqL.of h3
  · rintro i x σ H' hi ⟨rfl, y, rfl⟩
    obtain ⟨m, hm, rfl⟩ : ∃ m ∈ ls ++ rs, V.int m = x := by
      rw [← List.map_append] at hi
      have := List.mem_of_getElem? hi
      exact List.mem_map.mp this
    obtain ⟨hm0, hm1⟩ := low m hm
    obtain ⟨dx, mv, nm, dp, hb3⟩ := B3.ins_
    repeat kaf_suf
    refine ⟨rfl, b, M, gs, ds, m, rfl, B3, hm0, hm1, ?_⟩
    repeat kaf_suf
    exact ⟨rfl, _, rfl⟩
  · rintro σ H' ⟨rfl, y, rfl⟩
    have w1 : ls.length ≤ 4000 := by omega
    have w2 : rs.length ≤ 4000 := by omega
    repeat kaf_suf
    intro p4 c4 hp4 _
    repeat kaf_suf
    intro ns4 p5 u4 m4 _ hp5
    repeat kaf_suf
    intro p6 hp6
    repeat kaf_suf
    intro p7 c7 hp7 _
    repeat kaf_suf
    intro ns7 p8 u7 m7 _ hp8
    repeat kaf_suf
    intro p9 hp9
    repeat kaf_suf
    intro t ht
    repeat kaf_suf
    obtain rfl : ns4 = canon ls := canon_eq u4 (by simpa using m4)
    obtain rfl : ns7 = canon rs := canon_eq u7 (by simpa using m7)
    refine absS (S := fun HT => Keep Nil H HT ∧ GAt HT t (canon ls, canon rs)) ⟨?_, p6, p9, upd_same, by kaf_pre, by kaf_pre⟩ fun HT ⟨kT, gT⟩ => ?_
    · exact (((((((kp3.new hp4).new hp5).new hp6).new hp7).new hp8).new hp9).new ht)
    have BT := B.same kT
    obtain ⟨dx, mv, nm, dp, ts, xs, h1, h2, h3, h4, h5, h6, h7, m1, m2, m3, ne, h8⟩ := BT.ex
    have hlen := BT.dok.len
    have htl := Paired.length h3
    have hv := h6 (canon ls, canon rs)
    refine ⟨fun σ' H2 => ∃ y e, σ' = [some (.ref b), some (.ref l), some (.ref r), y, some (.ref t)] ∧ Keep M H H2 ∧ BookAt c H2 b M (addG gs (canon ls, canon rs)) (ds ++ e) ∧ GAt H2 t (canon ls, canon rs), ?_, ?_⟩
    · repeat kaf_suf
      refine v_ninN h4 gT.nk (gkey_depth _) ?_
      by_cases hin : (canon ls, canon rs) ∈ gs
      · rw [hv, if_pos hin]
        repeat kaf_suf
        exact ⟨_, [], rfl, kT.weak, by rw [List.append_nil, addG, if_pos hin]; exact BT, gT⟩
      · rw [hv, if_neg hin]
        rw [if_neg hin] at hv
        refine r_kB (r_ite_nf ?_)
        repeat kaf_suf
        have e1 := nd_neL h4 h2
        have e2 := nd_neL h4 h7
        have e3 := nd_neI h4 h1
        have e4 := li_ne h2 h1
        have e5 := li_ne h7 h1
        obtain ⟨ka, kb, t1, t2, t3⟩ := id gT
        have ea1 := nd_neT h4 t1
        have ea2 := lt_ne h2 t1
        have ea3 := lt_ne h7 t1
        have eb1 := nd_neT h4 t2
        have eb2 := lt_ne h2 t2
        have eb3 := lt_ne h7 t2
        have ec1 := nd_neT h4 t3
        have ec2 := lt_ne h2 t3
        have ec3 := lt_ne h7 t3
        refine v_setN h4 gT.nk (gkey_depth _) (few1 (by omega)) ?_
        rw [nput_new hv]
        repeat kaf_suf
        have g1 := canon_len' ls
        have g2 := canon_len' rs
        intro p H' hp' kp'
        repeat kaf_suf
        intro D hD
        have hall : ∀ m ∈ canon ls ++ canon rs, 0 ≤ m ∧ m < gs.length := fun m hm => low m (by rw [List.mem_append, canon_mem, canon_mem, ← List.mem_append] at hm; exact hm)
        have hDp : H' dp = some (.lst (ds.map V.int)) := by kaf_pre
        have hlen2 : (dps ds (canon ls ++ canon rs)).length = (canon ls ++ canon rs).length := List.length_map _
        refine lc_tup (xs := (canon ls).map V.int ++ (canon rs).map V.int) (fun i H2 => H2 D = some (.lst (((dps ds (canon ls ++ canon rs)).take i).map V.int)) ∧ Keep Nil H' H2) ⟨upd_same, Keep.alloc hD⟩ ?_ ?_ ?_
        · rintro i H2 _ ⟨_, k2⟩; exact SqT.of (by kaf_pre)
        · rintro i x H2 hi ⟨e2, k2⟩
          rw [← List.map_append, List.getElem?_map] at hi
          obtain ⟨m, hm, rfl⟩ := Option.map_eq_some_iff.mp hi
          obtain ⟨b1, b2⟩ := hall m (List.mem_of_getElem? hm)
          have hm' := (List.getElem?_eq_some_iff.mp hm).1
          rw [List.length_append] at hm'
          obtain ⟨n, rfl⟩ := Int.eq_ofNat_of_zero_le b1
          have hn : n < ds.length := by omega
          have hx : atI (ds.map V.int) (n : Int) = some (V.int ds[n]) := atI_get (n := n) (by simp [hn]) rfl
          repeat kaf_suf
          refine ⟨rfl, ?_⟩
          repeat kaf_suf
          refine ⟨_, e2, few1 (by simp; omega), ?_, k2.setN hD⟩
          rw [upd_same]
          have e : (dps ds (canon ls ++ canon rs))[i]? = some ds[n] := by
            rw [dps, List.getElem?_map, hm]; simp [hn]
          rw [List.take_succ, e]; simp
        · rintro H2 ⟨e2, k2⟩
          have e3 : H2 D = some (.lst ((dps ds (canon ls ++ canon rs)).map V.int)) := by
            rw [e2, List.take_of_length_le (by rw [hlen2]; simp)]
          repeat kaf_suf
          have ea : addG gs (canon ls, canon rs) = gs ++ [(canon ls, canon rs)] := if_neg hin
          have nee : canon ls ++ canon rs ≠ [] := fun z => by
            obtain ⟨z1, z2⟩ := List.append_eq_nil_iff.mp z
            rw [z1, z2] at hin
            exact hin (List.mem_of_getElem? B.ok.zero)
          refine v_maxL e3 (by rw [hlen2]; exact List.length_pos_iff.mpr nee) fun m hm hmax => ?_
          repeat kaf_suf
          have kf : Keep M HT (upd H2 dp (.lst (ds.map V.int ++ [V.int (1 + m)]))) := Keep.set (Keep.trans (Keep.trans (Keep.set (Keep.set Keep.refl m2) m1) kp'.weak) k2.weak) m3
          have kt : ∀ q ys, HT q = some (.tup ys) → (upd H2 dp (.lst (ds.map V.int ++ [V.int (1 + m)]))) q = some (.tup ys) := fun q ys e => kf q _ (BT.tupN e) e
          have gf := gT.keep kt
          have hnm : H' nm = some (NdO c.P c.w nm (xs ++ [(gkey (canon ls, canon rs), t, V.int ((ts.map V.ref).length : Nat))])) := kp'.get (fun z => z) (get_set e1.symm upd_same)
          refine ⟨_, [1 + m], rfl, kT.weak.trans kf, ⟨B.ok.add low, ?_, dx, mv, nm, dp, ts ++ [t], xs ++ [(gkey (canon ls, canon rs), t, V.int ((ts.map V.ref).length : Nat))], ?_, ?_, ?_, ⟨?_, ?_⟩, ?_, ?_, ?_, m1, m2, m3, ne, h8⟩, gf⟩
          · rw [ea]; exact B.dok.add B.ok hall nee hm hmax
          · kaf_pre
          · rw [List.map_append]; kaf_pre
          · rw [ea]; exact Paired.snoc (paired_keep h3 fun t g q => q.keep kt) gf
          · refine get_set ?_ (k2.get (fun z => z) hnm)
            tlg_ne
          · intro x hx
            rcases List.mem_append.mp hx with hx | hx
            · exact ⟨NkV.keeps kt _ _ (h4.keys x hx).1, (h4.keys x hx).2⟩
            · cases List.mem_singleton.mp hx
              exact ⟨gf.nk, gkey_depth _⟩
          · rw [ea]; simp [h5]
          · intro g
            rw [ea, nval_snoc, h6, List.length_map, htl]
            by_cases hg : g ∈ gs
            · rw [if_pos hg, if_pos (List.mem_append_left _ hg), List.idxOf_append, if_pos hg]; rfl
            · rw [if_neg hg]
              by_cases e : g = (canon ls, canon rs)
              · subst e
                rw [if_pos rfl, if_pos (List.mem_append_right _ List.mem_cons_self), List.idxOf_append, if_neg hg]
                simp
              · rw [if_neg (fun z => e (gkey_inj z).symm), if_neg (by simp [hg, e])]; rfl
          · rw [List.map_append]; exact upd_same
    · rintro σ' H2 ⟨y', e, rfl, k2, B2, g2⟩
      obtain ⟨dx, mv, nm, dp, ts, xs, h1, h2, h3, h4, h5, h6, h7, m1, m2, m3, ne, h8⟩ := B2.ex
      repeat kaf_suf
      refine v_ixN h4 g2.nk (gkey_depth _) ((h6 _).trans (if_pos (addG_mem _ _))) ?_
      repeat kaf_suf
      exact k H2 e k2 B2
theorem met_Book_game {c : Cn} {mg : Str → Option Value} {base : Heap} (T : Txt c mg) : Met c.P c.w c.K mg base CX0 2 c.cBook "game" (sp_Book_game c) := by
  obtain ⟨f, fd, F, g, b⟩ := T.F_Book_game
  exact ⟨f, fd, ["self", "lefts", "rights"], T.cl_Book, g, F.ok (k := 1) (N := N_Book_game) sc_Book_game (fun vs H Q E h => h.1) (fun cdv A outer s H vs Q E hr h => ⟨t_Book_game c, by
  exact (pss_cons (ps_for PassesOwn.never rfl (pi_any (pe_op o_add (pe_callTy (k_list rfl) (by rfl) T.n_list (by decide +kernel) (pa_cons (pv 1) pa_nil)) (pe_callTy (k_list rfl) (by rfl) T.n_list (by decide +kernel) (pa_cons (pv 2) pa_nil)))) (pg_name (i := 3) sc_Book_game.nd rfl (Or.inl rfl))
  (pss_one (ps_expr (e_meth (met_Book_need T) hr (by decide) pass0 (pv 0) (pa_cons (pv 3) pa_nil)))))
  (pss_cons (ps_set (i := 4) sc_Book_game.nd rfl (Or.inl rfl) (pe_tup (pa_cons (pe_callTy k_tuple (by rfl) T.n_tuple (by decide +kernel) (pa_cons (pe_callB (k_sorted rfl) (by rfl) T.n_sorted (by decide +kernel) (pa_cons (pe_callTy (k_set rfl) (by rfl) T.n_set (by decide +kernel) (pa_cons (pv 1) pa_nil)) pa_nil)) pa_nil)) (pa_cons (pe_callTy k_tuple (by rfl) T.n_tuple (by decide +kernel) (pa_cons (pe_callB (k_sorted rfl) (by rfl) T.n_sorted (by decide +kernel) (pa_cons (pe_callTy (k_set rfl) (by rfl) T.n_set (by decide +kernel) (pa_cons (pv 2) pa_nil)) pa_nil)) pa_nil)) pa_nil))))
  (C8.pss_cut (ps_if (pt_cmpR (o_notin (hu65 hr)) (pv 4) (pe_fld (pv 0) rfl) (by rfl)) (pss_cons (ps_asg (pe_callB k_len (by rfl) T.n_len (by decide +kernel) (pa_cons (pe_fld (pv 0) rfl) pa_nil)) (pg_sub (pe_fld (pv 0) rfl) (pv 4) (s_set (hu64 hr))))
  (pss_cons (ps_expr (pe_bm PySem.F.plainAttrs_list PySem.F.slot_list_append PySem.F.type_list_append mt_append (pe_fld (pv 0) rfl) (pa_cons (pv 4) pa_nil)))
  (pss_one (ps_expr (pe_bm PySem.F.plainAttrs_list PySem.F.slot_list_append PySem.F.type_list_append mt_append (pe_fld (pv 0) rfl) (pa_cons (pe_op o_add pe_int (pe_callB (k_max rfl) (by rfl) T.n_max (by decide +kernel) (pa_cons (pe_lc (own := [("g", 3)]) rfl sc_Book_game.nd (pi_any (pe_op o_add (pe_ix (x_ix (hu64 hr)) (pv 4) pe_int (fun _ _ => rfl)) (pe_ix (x_ix (hu64 hr)) (pv 4) pe_int (fun _ _ => rfl)))) (blkOk_by (own := [("g", 3)]) (N := N_Book_game) (sc := defScope s_Book_game) (by decide +kernel)) (fun _ _ _ _ _ => (pg_name (i := 3) sc_Book_game.nd rfl (Or.inl rfl))) (fun _ _ _ _ _ => pts_nil) (fun _ _ _ _ _ => (pe_ix (x_ix (hu64 hr)) (pe_fld (pv 0) rfl) (pv 3) (fun _ _ => rfl)))) pa_nil))) pa_nil)))))) pss_nil)
  (pss_one (ps_ret (pe_ix (x_ix (hu64 hr)) (pe_fld (pv 0) rfl) (pv 4) (fun _ _ => rfl))))))), p_Book_game T h⟩), b⟩
/-! the book as it is made; how many -/
theorem putF_0 {x : V} : putF ("moves" : Str) x [] = [(("moves" : Str), x)] := by rfl
theorem putF_1 {x y : V} : putF ("numbers" : Str) y [(("moves" : Str), x)] = [(("moves" : Str), x), (("numbers" : Str), y)] := by
  unfold putF; rw [if_neg (by decide)]; rfl
theorem putF_2 {x y z : V} : putF ("depths" : Str) z [(("moves" : Str), x), (("numbers" : Str), y)] = [(("moves" : Str), x), (("numbers" : Str), y), (("depths" : Str), z)] := by
  unfold putF; rw [if_neg (by decide)]; unfold putF; rw [if_neg (by decide)]; rfl
theorem GOk.one : GOk [([], [])] := ⟨rfl, by simp, fun g hg => by cases List.mem_singleton.mp hg; exact ⟨List.Pairwise.nil, List.Pairwise.nil⟩, fun i g h m hm => by
  cases i with
  | zero => simp at h; subst h; simp at hm
  | succ i => simp at h⟩
theorem DOk.one : DOk [([], [])] [0] := ⟨rfl, fun i g d h hd => by
  cases i with
  | zero => simp at h hd; subst h hd; exact ⟨fun _ => rfl, fun x hx => by simp [dps] at hx, fun z => absurd rfl z⟩
  | succ i => simp at h⟩
abbrev N_Book_init : List Str := ["self"]
theorem sc_Book_init : FnScope N_Book_init ["self"] (defScope s_Book_init) := ⟨rfl, rfl, rfl, by decide +kernel, rfl, by decide +kernel, by decide +kernel⟩
def t_Book_init (c : Cn) : TS :=
  (tSeq (sFld c.K (tVar 0) (tLst (tCons (tTup (tCons (tTup tNil) (tCons (tTup tNil) tNil))) tNil)) "moves")
  (tSeq (sFld c.K (tVar 0) (uDisp1 c.P c.w (tTup (tCons (tTup tNil) (tCons (tTup tNil) tNil))) (tC (.int 0))) "numbers")
  (sFld c.K (tVar 0) (tLst (tCons (tC (.int 0)) tNil)) "depths")))
def sp_Book_init (c : Cn) : Sp := fun vs H Q E => vs.length = 1 ∧ ∃ (b dx : Addr), vs = [.ref b] ∧ H b = some (.ins c.cBook dx []) ∧
  ∀ (H' : Hp) (M : Addr → Prop), Keep (fun x => x = b) H H' → BookAt c H' b M [([], [])] [0] → (∀ x, M x → H x = none) → Q .non H'
theorem p_Book_init {c : Cn} {mg : Str → Option Value} (T : Txt c mg) {vs : List V} {H : Hp} {Q : VK} {E : XK} (h : sp_Book_init c vs H Q E) : t_Book_init c { nx := fun _ H' => Q .non H', rt := Q } (start N_Book_init vs) H := by
  obtain ⟨_, b, dx, rfl, hb, k⟩ := h
  unfold t_Book_init
  repeat kaf_suf
  intro p1 hp1
  repeat kaf_suf
  intro p2 hp2
  repeat kaf_suf
  intro p3 hp3
  repeat kaf_suf
  intro mv hmv
  repeat kaf_suf
  refine r_ksfld (by kaf_pre) (Txt.cl_Book T) (Txt.na_Book_moves T) (by decide) ?_
  repeat kaf_suf
  intro nm hnm
  repeat kaf_suf
  intro p4 hp4
  repeat kaf_suf
  intro p5 hp5
  repeat kaf_suf
  intro t ht
  repeat kaf_suf
  have w0 : nm ≠ mv := ne_new hnm (show _ = some (HO.lst [V.ref p3]) by kaf_pre)
  have w1 : b ≠ nm := ne_old hnm upd_same
  have w2 : mv ≠ b := ne_new hmv (by kaf_pre)
  have w3 : p3 ≠ mv := ne_old hmv upd_same
  have hnm0 : H nm = none := by
    have h0 := none_of_upd hnm
    exact none_of_upd (none_of_upd (none_of_upd (none_of_upd h0)))
  have hmv0 : H mv = none := none_of_upd (none_of_upd (none_of_upd hmv))
  refine ⟨gkey ([], []), t, rfl, by kaf_pre, GAt.nk (g := ([], [])) ⟨p4, p5, by kaf_pre, by kaf_pre, by kaf_pre⟩, gkey_depth _, ?_⟩
  repeat kaf_suf
  refine r_ksfld (by kaf_pre) (Txt.cl_Book T) (Txt.na_Book_numbers T) (by rw [putF_0]; simp) ?_
  repeat kaf_suf
  intro dp hdp
  repeat kaf_suf
  refine r_ksfld (by kaf_pre) (Txt.cl_Book T) (Txt.na_Book_depths T) (by rw [putF_0, putF_1]; simp) ?_
  repeat kaf_suf
  have hdp0 : H dp = none := by
    have := hdp
    repeat (first | exact this | replace this := none_of_upd this)
  have w4 : dp ≠ mv := ne_new hdp (show _ = some (HO.lst [V.ref p3]) by kaf_pre)
  have w5 : dp ≠ nm := ne_new hdp (show _ = some (NdO c.P c.w nm [(gkey ([], []), t, V.int 0)]) by kaf_pre)
  have w6 : dp ≠ b := ne_new hdp upd_same
  have x3 : p3 ≠ nm := ne_old hnm (by kaf_pre)
  have x2 : p2 ≠ nm := ne_old hnm (by kaf_pre)
  have x1 : p1 ≠ nm := ne_old hnm (by kaf_pre)
  have y3 : p3 ≠ b := ne_new hp3 (by kaf_pre)
  have y2 : p2 ≠ b := ne_new hp2 (by kaf_pre)
  have y1 : p1 ≠ b := ne_new hp1 (by kaf_pre)
  have z4 : p4 ≠ b := ne_new hp4 (by kaf_pre)
  have z5 : p5 ≠ b := ne_new hp5 (by kaf_pre)
  have z6 : t ≠ b := ne_new ht (by kaf_pre)
  have q4 : p4 ≠ nm := ne_new hp4 upd_same
  have q5 : p5 ≠ nm := ne_new hp5 (by kaf_pre)
  have q6 : t ≠ nm := ne_new ht (by kaf_pre)
  refine absQ (S := fun H' => Keep (fun x => x = b) H H' ∧ H' b = some (.ins c.cBook dx (bookFs mv nm dp)) ∧ H' mv = some (.lst [.ref p3]) ∧ H' p3 = some (.tup [.ref p1, .ref p2]) ∧ H' p1 = some (.tup []) ∧ H' p2 = some (.tup []) ∧
    H' nm = some (NdO c.P c.w nm [(gkey ([], []), t, V.int 0)]) ∧ H' t = some (.tup [.ref p4, .ref p5]) ∧ H' p4 = some (.tup []) ∧ H' p5 = some (.tup []) ∧ H' dp = some (.lst [.int 0])) ⟨?_, ?_, ?_, ?_, ?_, ?_, ?_, ?_, ?_, ?_, ?_⟩ fun HX ⟨f0, f1, f2, f3, f4, f5, f6, f7, f8, f9, f10⟩ => ?_
  · repeat (first | exact Keep.refl | refine' Keep.set ?_ rfl | refine' Keep.new ?_ (by assumption) | refine' Keep.setN ?_ (by assumption))
  · rw [putF_0, putF_1, putF_2]; exact upd_same
  · kaf_pre
  · kaf_pre
  · kaf_pre
  · kaf_pre
  · kaf_pre
  · kaf_pre
  · kaf_pre
  · kaf_pre
  · kaf_pre
  refine k HX (fun x => x = mv ∨ x = nm ∨ x = dp) f0 ⟨GOk.one, DOk.one, dx, mv, nm, dp, [p3], [(gkey ([], []), t, V.int 0)], f1, f2, .cons ⟨p1, p2, f3, f4, f5⟩ .nil, ⟨f6, fun x hx => ?_⟩, rfl, fun g => ?_, f10, .inl rfl, .inr (.inl rfl), .inr (.inr rfl), w4.symm, fun _ h => h⟩ fun x hx => ?_
  · cases List.mem_singleton.mp hx
    exact ⟨GAt.nk (g := ([], [])) ⟨p4, p5, f7, f8, f9⟩, gkey_depth _⟩
  · by_cases e : g = ([], [])
    · subst e; rfl
    · have e' : ¬ gkey ([], []) = gkey g := fun z => e (gkey_inj z).symm
      rw [if_neg (by simpa using e)]
      simp [nval, e']
  · rcases hx with rfl | rfl | rfl <;> assumption
theorem mak_Book {c : Cn} {mg : Str → Option Value} {base : Heap} (T : Txt c mg) : Mak c.P c.w c.K mg base CX0 1 "Book" c.cBook (sp_Book_init c) := by
  obtain ⟨f, fd, F, g, b⟩ := T.F_Book_init
  exact ⟨f, fd, ["self"], g, F.ok (k := 0) (N := N_Book_init) sc_Book_init (fun vs H Q E h => h.1) (fun cdv A outer s H vs Q E hr h => ⟨t_Book_init c, by
  exact (pss_cons (ps_fld (pv 0) (pe_lst (pa_cons (pe_tup (pa_cons (pe_tup pa_nil) (pa_cons (pe_tup pa_nil) pa_nil))) pa_nil)) rfl)
  (pss_cons (ps_fld (pv 0) (pe_disp1 (hu64 hr) (pe_tup (pa_cons (pe_tup pa_nil) (pa_cons (pe_tup pa_nil) pa_nil))) pe_int) rfl)
  (pss_one (ps_fld (pv 0) (pe_lst (pa_cons pe_int pa_nil)) rfl)))), p_Book_init T h⟩), T.g_Book, b⟩

abbrev N_Book_many : List Str := ["self"]
theorem sc_Book_many : FnScope N_Book_many ["self"] (defScope s_Book_many) := ⟨rfl, rfl, rfl, by decide +kernel, rfl, by decide +kernel, by decide +kernel⟩
def t_Book_many (c : Cn) : TS :=
  (tRet (tCB (kLen c.K) (tCons (tFld c.K (tVar 0) "moves") tNil)))
def sp_Book_many (c : Cn) : Sp := fun vs H Q E => vs.length = 1 ∧ ∃ (b : Addr) (M : Addr → Prop) (gs : List Gm) (ds : List Int), vs = [.ref b] ∧ BookAt c H b M gs ds ∧ Q (.int gs.length) H
theorem p_Book_many {c : Cn} {mg : Str → Option Value} (T : Txt c mg) {vs : List V} {H : Hp} {Q : VK} {E : XK} (h : sp_Book_many c vs H Q E) : t_Book_many c { nx := fun _ H' => Q .non H', rt := Q } (start N_Book_many vs) H := by
  obtain ⟨_, b, M, gs, ds, rfl, B, k⟩ := h
  obtain ⟨dx, mv, nm, dp, ts, xs, h1, h2, h3, h4, h5, h6, h7, m1, m2, m3, ne, h8⟩ := B.ex
  unfold t_Book_many
  repeat kaf_suf
  rw [List.length_map, Paired.length h3]
  exact k
theorem met_Book_many {c : Cn} {mg : Str → Option Value} {base : Heap} (T : Txt c mg) : Met c.P c.w c.K mg base CX0 1 c.cBook "many" (sp_Book_many c) := by
  obtain ⟨f, fd, F, g, b⟩ := T.F_Book_many
  exact ⟨f, fd, ["self"], T.cl_Book, g, F.ok (k := 0) (N := N_Book_many) sc_Book_many (fun vs H Q E h => h.1) (fun cdv A outer s H vs Q E hr h => ⟨t_Book_many c, by
  exact (pss_one (ps_ret (pe_callB k_len (by rfl) T.n_len (by decide +kernel) (pa_cons (pe_fld (pv 0) rfl) pa_nil)))), p_Book_many T h⟩), b⟩

/-! rows of games: a list of pairs of lists -/
def dInts (l : List Int) : PyData := .list (l.map PyData.int)
def dRow (g : Gm) : PyData := .tuple [dInts g.1, dInts g.2]
theorem eqv_ints : ∀ ns ms : List Int, PyData.eqvAll (ns.map PyData.int) (ms.map PyData.int) = decide (ns = ms)
  | [], [] => by simp [PyData.eqvAll]
  | [], _ :: _ => by simp [PyData.eqvAll]
  | _ :: _, [] => by simp [PyData.eqvAll]
  | a :: r, b :: t => by
    simp only [List.map_cons, PyData.eqvAll, PyData.eqv, eqv_ints r t]
    by_cases h : a = b <;> by_cases h' : r = t <;> simp [h, h']
theorem eqv_dInts (a b : List Int) : PyData.eqv (dInts a) (dInts b) = decide (a = b) := by
  unfold dInts; simp only [PyData.eqv]; exact eqv_ints a b
theorem eqv_dRow (g k : Gm) : PyData.eqv (dRow g) (dRow k) = decide (g = k) := by
  have e : PyData.eqv (dRow g) (dRow k) = (PyData.eqv (dInts g.1) (dInts k.1) && (PyData.eqv (dInts g.2) (dInts k.2) && true)) := by simp only [dRow, PyData.eqv, PyData.eqvAll]
  rw [e, eqv_dInts, eqv_dInts]
  obtain ⟨a, b⟩ := g; obtain ⟨a', b'⟩ := k
  by_cases h : a = a' <;> by_cases h' : b = b' <;> simp [h, h']
theorem lay_ints : ∀ ns : List Int, PyData.canLayAll0 (ns.map PyData.int) = true
  | [] => by simp [PyData.canLayAll0]
  | _ :: r => by simp [PyData.canLayAll0, PyData.canLay0, lay_ints r]
theorem dpt_ints : ∀ ns : List Int, PyData.depthAll (ns.map PyData.int) = 0
  | [] => by simp [PyData.depthAll]
  | _ :: r => by simp [PyData.depthAll, PyData.depth, dpt_ints r]
theorem dInts_lay (l : List Int) : (dInts l).canLay0 = true := by unfold dInts; simp only [PyData.canLay0]; exact lay_ints l
theorem dInts_dep (l : List Int) : (dInts l).depth = 1 := by unfold dInts; simp only [PyData.depth, dpt_ints]
theorem dRow_lay (g : Gm) : (dRow g).canLay0 = true := by simp [dRow, PyData.canLay0, PyData.canLayAll0, dInts_lay]
theorem dRow_dep (g : Gm) : (dRow g).depth = 2 := by simp [dRow, PyData.depth, PyData.depthAll, dInts_dep]
theorem dRows_lay : ∀ gs : List Gm, PyData.canLayAll0 (gs.map dRow) = true
  | [] => by simp [PyData.canLayAll0]
  | g :: r => by simp [PyData.canLayAll0, dRow_lay g, dRows_lay r]
theorem dRows_dep : ∀ gs : List Gm, PyData.depthAll (gs.map dRow) ≤ 2
  | [] => by simp [PyData.depthAll]
  | g :: r => by
    have h1 := dRows_dep r
    have h2 := dRow_dep g
    simp only [List.map_cons, PyData.depthAll]; omega
theorem shaped_of {d : PyData} (h : d.canLay0 = true) (k : d.depth ≤ 64) : SeqAt.shaped d = true := by
  show (d.canLay0 && decide (d.depth ≤ 64)) = true
  rw [Bool.and_eq_true]
  exact ⟨h, decide_eq_true k⟩
theorem dInts_sh (l : List Int) : SeqAt.shaped (dInts l) = true := shaped_of (dInts_lay l) (by rw [dInts_dep]; omega)
theorem dRow_sh (g : Gm) : SeqAt.shaped (dRow g) = true := shaped_of (dRow_lay g) (by rw [dRow_dep]; omega)
theorem dRows_sh (gs : List Gm) : SeqAt.shaped (.list (gs.map dRow)) = true := shaped_of (by simp only [PyData.canLay0]; exact dRows_lay gs) (by have := dRows_dep gs; simp only [PyData.depth]; omega)
theorem dTwo_sh (a b : List Int) : SeqAt.shaped (.list [dInts a, dInts b]) = true := shaped_of (by simp [PyData.canLay0, PyData.canLayAll0, dInts_lay]) (by simp [PyData.depth, PyData.depthAll, dInts_dep])
theorem eqv_two (a b a' b' : List Int) : PyData.eqv (.list [dInts a, dInts b]) (.list [dInts a', dInts b']) = (decide (a = a') && decide (b = b')) := by
  simp only [PyData.eqv, PyData.eqvAll, eqv_dInts, Bool.and_true]
theorem dp_all {K : PySem.W.Frag} {H : Hp} : ∀ (l : List Int), DpAll K H (l.map V.int) (l.map PyData.int)
  | [] => .nil
  | x :: r => .cons (.int x) (dp_all r)
theorem dp_ints {K : PySem.W.Frag} {H : Hp} {a : Addr} {l : List Int} (h : H a = some (.lst (l.map V.int))) : Dp K H (.ref a) (dInts l) := .lst (SqL.of h) (dp_all l)
theorem dp_two {K : PySem.W.Frag} {H : Hp} {p a b : Addr} {l m : List Int} (h : H p = some (.lst [.ref a, .ref b])) (h1 : H a = some (.lst (l.map V.int))) (h2 : H b = some (.lst (m.map V.int))) : Dp K H (.ref p) (.list [dInts l, dInts m]) :=
  .lst (SqL.of h) (.cons (dp_ints h1) (.cons (dp_ints h2) .nil))
def RowAt (W : Addr → Prop) (H : Hp) (t : Addr) (g : Gm) : Prop := ∃ a b, H t = some (.tup [.ref a, .ref b]) ∧ H a = some (.lst (g.1.map V.int)) ∧ H b = some (.lst (g.2.map V.int)) ∧ ¬ W t ∧ ¬ W a ∧ ¬ W b
theorem RowAt.keep {W : Addr → Prop} {H H' : Hp} {t : Addr} {g : Gm} (r : RowAt W H t g) (k : Keep W H H') : RowAt W H' t g := by
  obtain ⟨a, b, h1, h2, h3, n1, n2, n3⟩ := r
  exact ⟨a, b, k _ _ n1 h1, k _ _ n2 h2, k _ _ n3 h3, n1, n2, n3⟩
theorem RowAt.dp {K : PySem.W.Frag} {W : Addr → Prop} {H : Hp} {t : Addr} {g : Gm} (r : RowAt W H t g) : Dp K H (.ref t) (dRow g) := by
  obtain ⟨a, b, h1, h2, h3, _⟩ := r
  exact .tup (SqT.of h1) (.cons (dp_ints h2) (.cons (dp_ints h3) .nil))
def RowsAt (W : Addr → Prop) (H : Hp) (R : Addr) (gs : List Gm) : Prop := ∃ ks : List Addr, H R = some (.lst (ks.map V.ref)) ∧ Paired (RowAt W H) ks gs
theorem rows_dp {K : PySem.W.Frag} {W : Addr → Prop} {H : Hp} {ks : List Addr} {gs : List Gm} (p : Paired (RowAt W H) ks gs) : DpAll K H (ks.map V.ref) (gs.map dRow) := by
  induction p with
  | nil => exact .nil
  | cons r _ ih => exact .cons r.dp ih
theorem RowsAt.dp {K : PySem.W.Frag} {W : Addr → Prop} {H : Hp} {R : Addr} {gs : List Gm} (r : RowsAt W H R gs) : Dp K H (.ref R) (.list (gs.map dRow)) := by
  obtain ⟨ks, h, p⟩ := r
  exact .lst (SqL.of h) (rows_dp p)
theorem any_row (gs : List Gm) (k : Gm) : ((gs.map dRow).any fun z => PyData.eqv z (dRow k)) = decide (k ∈ gs) := by
  rw [List.any_map]
  have e : ((fun z => PyData.eqv z (dRow k)) ∘ dRow) = fun g => decide (g = k) := by funext g; exact eqv_dRow g k
  rw [e]
  by_cases h : k ∈ gs
  · rw [decide_eq_true h]; exact List.any_eq_true.mpr ⟨k, h, by simp⟩
  · rw [decide_eq_false h]; exact List.any_eq_false.mpr fun x hx => by simp; intro z; exact h (z ▸ hx)
theorem v_ninRows {P : Program} {w : World} {K : PySem.W.Frag} {W : Addr → Prop} {H : Hp} {Q : VK} {t R : Addr} {k : Gm} {gs : List Gm} (r : RowsAt W H R gs) (h : RowAt W H t k) (q : Q (.bl (!decide (k ∈ gs))) H) : cNotIn P w K (.ref t) (.ref R) H Q :=
  .inr (.inl ⟨_, _, h.dp, r.dp, dRow_sh _, dRows_sh _, by rw [any_row]; exact q⟩)
theorem v_indexRows {K : PySem.W.Frag} {W : Addr → Prop} {H : Hp} {Q : VK} {t R : Addr} {k : Gm} {gs : List Gm} (r : RowsAt W H R gs) (h : RowAt W H t k) (m : k ∈ gs) (q : Q (.int (ixG gs k)) H) : kIndex K (.ref R) [.ref t] H Q := by
  refine .inr ⟨R, .ref t, dRow k, gs.map dRow, ixG gs k, dRow k, rfl, rfl, r.dp, h.dp, dRows_sh _, dRow_sh _, ?_, by rw [eqv_dRow]; simp, fun j z hj hz => ?_, q⟩
  · rw [List.getElem?_map, ixG_get m]; rfl
  · rw [List.getElem?_map] at hz
    obtain ⟨g, hg, rfl⟩ := Option.map_eq_some_iff.mp hz
    rw [eqv_dRow]
    refine decide_eq_false fun e => ?_
    subst e
    obtain ⟨hl, hg⟩ := List.getElem?_eq_some_iff.mp hg
    have := List.not_of_lt_findIdx (p := fun x => x == g) (xs := gs) (i := j) hj
    simp [hg] at this
theorem up_len : ∀ (l : List Int) (lo n : Int), l.Pairwise (· < ·) → (∀ x ∈ l, lo ≤ x ∧ x < n) → lo ≤ n → (l.length : Int) ≤ n - lo
  | [], lo, n, _, _, h => by simp; omega
  | x :: r, lo, n, u, b, _ => by
    have u' := List.pairwise_cons.mp u
    have bx := b x List.mem_cons_self
    have := up_len r (x + 1) n u'.2 (fun y hy => ⟨by have := u'.1 y hy; omega, (b y (List.mem_cons_of_mem _ hy)).2⟩) (by omega)
    simp only [List.length_cons]; omega
theorem RowsAt.keep {W : Addr → Prop} {H H' : Hp} {R : Addr} {gs : List Gm} (r : RowsAt W H R gs) (k : Keep W H H') (e : ∀ o, H R = some o → H' R = some o) : RowsAt W H' R gs := by
  obtain ⟨ks, h, p⟩ := r
  exact ⟨ks, e _ h, paired_keep p fun t g q => q.keep k⟩

/-! the depth as it is told -/
abbrev N_Book_depth : List Str := ["self", "g"]
theorem sc_Book_depth : FnScope N_Book_depth ["self", "g"] (defScope s_Book_depth) := ⟨rfl, rfl, rfl, by decide +kernel, rfl, by decide +kernel, by decide +kernel⟩
def t_Book_depth (c : Cn) : TS :=
  (tSeq (tDrop (tMeth c.cBook "need" (sp_Book_need c) [] E0 (tVar 0) (tCons (tVar 1) tNil)))
  (tRet (tOp (bIx c.P c.w c.K) (tFld c.K (tVar 0) "depths") (tVar 1))))
def sp_Book_depth (c : Cn) : Sp := fun vs H Q E => vs.length = 2 ∧ ∃ (b : Addr) (M : Addr → Prop) (gs : List Gm) (ds : List Int) (g : Nat) (e : Int), vs = [.ref b, .int g] ∧ BookAt c H b M gs ds ∧ ds[g]? = some e ∧ Q (.int e) H
theorem p_Book_depth {c : Cn} {mg : Str → Option Value} (T : Txt c mg) {vs : List V} {H : Hp} {Q : VK} {E : XK} (h : sp_Book_depth c vs H Q E) : t_Book_depth c { nx := fun _ H' => Q .non H', rt := Q } (start N_Book_depth vs) H := by
  obtain ⟨_, b, M, gs, ds, g, e, rfl, B, hg, k⟩ := h
  obtain ⟨dx, mv, nm, dp, ts, xs, h1, h2, h3, h4, h5, h6, h7, m1, m2, m3, ne, h8⟩ := B.ex
  have hl := (List.getElem?_eq_some_iff.mp hg).1
  have hn := B.dok.len
  unfold t_Book_depth
  repeat kaf_suf
  refine ⟨rfl, b, M, gs, ds, g, rfl, B, by omega, by omega, ?_⟩
  have hx : atI (ds.map V.int) (g : Int) = some (V.int e) := atI_get (n := g) (by rw [List.getElem?_map, hg]; rfl) rfl
  repeat kaf_suf
  exact k
theorem met_Book_depth {c : Cn} {mg : Str → Option Value} {base : Heap} (T : Txt c mg) : Met c.P c.w c.K mg base CX0 2 c.cBook "depth" (sp_Book_depth c) := by
  obtain ⟨f, fd, F, g, b⟩ := T.F_Book_depth
  exact ⟨f, fd, ["self", "g"], T.cl_Book, g, F.ok (k := 1) (N := N_Book_depth) sc_Book_depth (fun vs H Q E h => h.1) (fun cdv A outer s H vs Q E hr h => ⟨t_Book_depth c, by
  exact (pss_cons (ps_expr (e_meth (met_Book_need T) hr (by decide) pass0 (pv 0) (pa_cons (pv 1) pa_nil)))
  (pss_one (ps_ret (pe_ix (x_ix (hu64 hr)) (pe_fld (pv 0) rfl) (pv 1) (fun _ _ => rfl))))), p_Book_depth T h⟩), b⟩
theorem DOk.pos {gs : List Gm} {ds : List Int} (o : GOk gs) (d : DOk gs ds) : ∀ (n i : Nat), i < n → ∀ e, ds[i]? = some e → 0 ≤ e
  | 0, _, h, _, _ => by omega
  | n + 1, i, h, e, he => by
    have hi := (List.getElem?_eq_some_iff.mp he).1
    obtain ⟨g, hg⟩ : ∃ g, gs[i]? = some g := ⟨_, List.getElem?_eq_getElem (by rw [← d.len]; exact hi)⟩
    obtain ⟨d1, _, d3⟩ := d.at_ i _ e hg he
    by_cases z : g.1 ++ g.2 = []
    · have := d1 z; omega
    · obtain ⟨x, hx, ex⟩ := d3 z
      obtain ⟨m, hm, rfl⟩ := List.mem_map.mp hx
      obtain ⟨l0, l1⟩ := o.low i _ hg m hm
      have : 0 ≤ ds[m.toNat]?.getD 0 := by
        cases q : ds[m.toNat]? with
        | none => simp
        | some v => exact DOk.pos o d n m.toNat (by omega) v q
      omega

/-! the moves as they are told -/
abbrev N_Book_lefts : List Str := ["self", "g"]
theorem sc_Book_lefts : FnScope N_Book_lefts ["self", "g"] (defScope s_Book_lefts) := ⟨rfl, rfl, rfl, by decide +kernel, rfl, by decide +kernel, by decide +kernel⟩
def t_Book_lefts (c : Cn) : TS :=
  (tSeq (tDrop (tMeth c.cBook "need" (sp_Book_need c) [] E0 (tVar 0) (tCons (tVar 1) tNil)))
  (tRet (tCB (kList c.K) (tCons (tOp (bIx c.P c.w c.K) (tOp (bIx c.P c.w c.K) (tFld c.K (tVar 0) "moves") (tVar 1)) (tC (.int 0))) tNil))))
def sp_Book_lefts (c : Cn) : Sp := fun vs H Q E => vs.length = 2 ∧ ∃ (b : Addr) (M : Addr → Prop) (gs : List Gm) (ds : List Int) (g : Nat) (gm : Gm), vs = [.ref b, .int g] ∧ BookAt c H b M gs ds ∧ gs[g]? = some gm ∧ ∀ p, H p = none → Q (.ref p) (upd H p (.lst (gm.1.map V.int)))
theorem p_Book_lefts {c : Cn} {mg : Str → Option Value} (T : Txt c mg) {vs : List V} {H : Hp} {Q : VK} {E : XK} (h : sp_Book_lefts c vs H Q E) : t_Book_lefts c { nx := fun _ H' => Q .non H', rt := Q } (start N_Book_lefts vs) H := by
  obtain ⟨_, b, M, gs, ds, g, gm, rfl, B, hg, k⟩ := h
  obtain ⟨dx, mv, nm, dp, ts, xs, h1, h2, h3, h4, h5, h6, h7, m1, m2, m3, ne, h8⟩ := B.ex
  have hl := (List.getElem?_eq_some_iff.mp hg).1
  unfold t_Book_lefts
  repeat kaf_suf
  refine ⟨rfl, b, M, gs, ds, g, rfl, B, by omega, by omega, ?_⟩
  obtain ⟨t, ht, ka, kb, t1, t2, t3⟩ := paired_get h3 hg
  have hx : atI (ts.map V.ref) (g : Int) = some (V.ref t) := atI_get (n := g) (by rw [List.getElem?_map, ht]; rfl) rfl
  repeat kaf_suf
  exact k
theorem met_Book_lefts {c : Cn} {mg : Str → Option Value} {base : Heap} (T : Txt c mg) : Met c.P c.w c.K mg base CX0 2 c.cBook "lefts" (sp_Book_lefts c) := by
  obtain ⟨f, fd, F, g, b⟩ := T.F_Book_lefts
  exact ⟨f, fd, ["self", "g"], T.cl_Book, g, F.ok (k := 1) (N := N_Book_lefts) sc_Book_lefts (fun vs H Q E h => h.1) (fun cdv A outer s H vs Q E hr h => ⟨t_Book_lefts c, by
  exact (pss_cons (ps_expr (e_meth (met_Book_need T) hr (by decide) pass0 (pv 0) (pa_cons (pv 1) pa_nil)))
  (pss_one (ps_ret (pe_callTy (k_list rfl) (by rfl) T.n_list (by decide +kernel) (pa_cons (pe_ix (x_ix (hu64 hr)) (pe_ix (x_ix (hu64 hr)) (pe_fld (pv 0) rfl) (pv 1) (fun _ _ => rfl)) pe_int (fun _ _ => rfl)) pa_nil))))), p_Book_lefts T h⟩), b⟩
abbrev N_Book_rights : List Str := ["self", "g"]
theorem sc_Book_rights : FnScope N_Book_rights ["self", "g"] (defScope s_Book_rights) := ⟨rfl, rfl, rfl, by decide +kernel, rfl, by decide +kernel, by decide +kernel⟩
def t_Book_rights (c : Cn) : TS :=
  (tSeq (tDrop (tMeth c.cBook "need" (sp_Book_need c) [] E0 (tVar 0) (tCons (tVar 1) tNil)))
  (tRet (tCB (kList c.K) (tCons (tOp (bIx c.P c.w c.K) (tOp (bIx c.P c.w c.K) (tFld c.K (tVar 0) "moves") (tVar 1)) (tC (.int 1))) tNil))))
def sp_Book_rights (c : Cn) : Sp := fun vs H Q E => vs.length = 2 ∧ ∃ (b : Addr) (M : Addr → Prop) (gs : List Gm) (ds : List Int) (g : Nat) (gm : Gm), vs = [.ref b, .int g] ∧ BookAt c H b M gs ds ∧ gs[g]? = some gm ∧ ∀ p, H p = none → Q (.ref p) (upd H p (.lst (gm.2.map V.int)))
theorem p_Book_rights {c : Cn} {mg : Str → Option Value} (T : Txt c mg) {vs : List V} {H : Hp} {Q : VK} {E : XK} (h : sp_Book_rights c vs H Q E) : t_Book_rights c { nx := fun _ H' => Q .non H', rt := Q } (start N_Book_rights vs) H := by
  obtain ⟨_, b, M, gs, ds, g, gm, rfl, B, hg, k⟩ := h
  obtain ⟨dx, mv, nm, dp, ts, xs, h1, h2, h3, h4, h5, h6, h7, m1, m2, m3, ne, h8⟩ := B.ex
  have hl := (List.getElem?_eq_some_iff.mp hg).1
  unfold t_Book_rights
  repeat kaf_suf
  refine ⟨rfl, b, M, gs, ds, g, rfl, B, by omega, by omega, ?_⟩
  obtain ⟨t, ht, ka, kb, t1, t2, t3⟩ := paired_get h3 hg
  have hx : atI (ts.map V.ref) (g : Int) = some (V.ref t) := atI_get (n := g) (by rw [List.getElem?_map, ht]; rfl) rfl
  repeat kaf_suf
  exact k
theorem met_Book_rights {c : Cn} {mg : Str → Option Value} {base : Heap} (T : Txt c mg) : Met c.P c.w c.K mg base CX0 2 c.cBook "rights" (sp_Book_rights c) := by
  obtain ⟨f, fd, F, g, b⟩ := T.F_Book_rights
  exact ⟨f, fd, ["self", "g"], T.cl_Book, g, F.ok (k := 1) (N := N_Book_rights) sc_Book_rights (fun vs H Q E h => h.1) (fun cdv A outer s H vs Q E hr h => ⟨t_Book_rights c, by
  exact (pss_cons (ps_expr (e_meth (met_Book_need T) hr (by decide) pass0 (pv 0) (pa_cons (pv 1) pa_nil)))
  (pss_one (ps_ret (pe_callTy (k_list rfl) (by rfl) T.n_list (by decide +kernel) (pa_cons (pe_ix (x_ix (hu64 hr)) (pe_ix (x_ix (hu64 hr)) (pe_fld (pv 0) rfl) (pv 1) (fun _ _ => rfl)) pe_int (fun _ _ => rfl)) pa_nil))))), p_Book_rights T h⟩), b⟩

/-! plain helpers -/
theorem any_eq {α : Type} {f g : α → Bool} : ∀ {l : List α}, (∀ m ∈ l, f m = g m) → l.any f = l.any g
  | [], _ => rfl
  | x :: r, h => by rw [List.any_cons, List.any_cons, h x List.mem_cons_self, any_eq fun m hm => h m (List.mem_cons_of_mem _ hm)]
def mvs (gs : List Gm) (g : Nat) (s : Bool) : List Int := match gs[g]? with
  | some x => if s then x.1 else x.2
  | none => []
theorem mvs_low {gs : List Gm} (o : GOk gs) {g : Nat} {s : Bool} {m : Int} (h : m ∈ mvs gs g s) : 0 ≤ m ∧ m < g ∧ g < gs.length := by
  unfold mvs at h
  cases e : gs[g]? with
  | none => rw [e] at h; simp at h
  | some x =>
    rw [e] at h
    have hl := (List.getElem?_eq_some_iff.mp e).1
    have := o.low g x e m (by
      cases s
      · simp at h; simp [h]
      · simp at h; simp [h])
    omega
theorem mvs_more {gs f : List Gm} {g : Nat} {s : Bool} (h : g < gs.length) : mvs (gs ++ f) g s = mvs gs g s := by
  unfold mvs; rw [List.getElem?_append_left h]
theorem nodup_le {α : Type} [DecidableEq α] : ∀ (l m : List α), l.Nodup → (∀ x ∈ l, x ∈ m) → l.length ≤ m.length
  | [], _, _, _ => Nat.zero_le _
  | x :: l, m, nd, h => by
    have nd' := List.nodup_cons.mp nd
    have hx := h x List.mem_cons_self
    have := nodup_le l (m.erase x) nd'.2 fun y hy => by
      have hm := h y (List.mem_cons_of_mem _ hy)
      exact (List.mem_erase_of_ne (fun (e : y = x) => nd'.1 (by rw [← e]; exact hy))).mpr hm
    rw [List.length_erase_of_mem hx] at this
    have := List.length_pos_of_mem hx
    simp only [List.length_cons]; omega
theorem nval_nput {xs : List NX} {k : NestedKey} {a : Addr} {v : V} : nval (nput xs k a v) k = some v := by
  unfold nput
  split
  · rename_i h
    clear a
    have go : ∀ xs : List NX, (nval xs k).isSome = true → nval (xs.map fun x => if x.1 = k then (x.1, x.2.1, v) else x) k = some v := fun xs => by
      unfold nval
      induction xs with
      | nil => intro h; simp at h
      | cons p q ih =>
        intro h
        rw [List.map_cons]
        by_cases e : p.1 = k
        · rw [if_pos e, List.find?_cons_of_pos (by simp [e])]; rfl
        · rw [if_neg e, List.find?_cons_of_neg (by simp [e])]
          rw [List.find?_cons_of_neg (by simp [e])] at h
          exact ih h
    exact go xs h
  · rename_i h
    rw [nval_snoc]
    have : nval xs k = none := by
      cases e : nval xs k with
      | none => rfl
      | some v => rw [e] at h; simp at h
    rw [this]; simp
theorem nval_mem {xs : List NX} {k : NestedKey} {v : V} (h : nval xs k = some v) : ∃ x ∈ xs, x.1 = k ∧ x.2.2 = v := by
  unfold nval at h
  obtain ⟨x, hx, rfl⟩ := Option.map_eq_some_iff.mp h
  exact ⟨x, List.mem_of_find?_eq_some hx, by simpa using List.find?_some hx, rfl⟩
theorem nval_none {xs : List NX} {k : NestedKey} (h : nval xs k = none) : ∀ x ∈ xs, x.1 ≠ k := fun x hx e => by
  unfold nval at h
  rw [Option.map_eq_none_iff] at h
  have := List.find?_eq_none.mp h x hx
  simp [e] at this
theorem any_filter {α : Type} [DecidableEq α] {p : α → Bool} : ∀ (l : List α), l.any p = !decide (l.filter p = [])
  | [] => by simp
  | x :: r => by
    by_cases h : p x = true
    · simp [h]
    · simp only [Bool.not_eq_true] at h
      rw [List.any_cons, h, Bool.false_or, any_filter r]
      simp [List.filter_cons, h]
theorem BookAt.keepX {c : Cn} {H H' : Hp} {b : Addr} {M N : Addr → Prop} {gs : List Gm} {ds : List Int} (B : BookAt c H b M gs ds) (k : Keep N H H') (n : ∀ x, N x → ∃ φ, H x = some (.ext φ)) (d : ∀ x, M x → ¬ N x) : BookAt c H' b M gs ds := by
  obtain ⟨dx, mv, nm, dp, ts, xs, h1, h2, h3, h4, h5, h6, h7, m1, m2, m3, ne, h8⟩ := B.ex
  have kt : ∀ q ys, H q = some (.tup ys) → H' q = some (.tup ys) := fun q ys e => k _ _ (fun z => by obtain ⟨l, e'⟩ := n q z; rw [e] at e'; cases e') e
  refine ⟨B.ok, B.dok, dx, mv, nm, dp, ts, xs, k _ _ (fun z => ?_) h1, k _ _ (d _ m1) h2, paired_keep h3 fun t g q => q.keep kt, ⟨k _ _ (d _ m2) h4.here, fun x hx => ⟨NkV.keeps kt _ _ (h4.keys x hx).1, (h4.keys x hx).2⟩⟩, h5, h6, k _ _ (d _ m3) h7, m1, m2, m3, ne, h8⟩
  obtain ⟨l, e'⟩ := n b z; rw [h1] at e'; cases e'
theorem v_setN' {P : Program} {w : World} {H : Hp} {Q : Hp → Prop} {p a : Addr} {k : NestedKey} {xs : List NX} {v : V} (N : NdAt P w H a xs) (kp : NkV H k (.ref p)) (d : k.depth ≤ 8) (l : xs.length < sizeLine) (q : Q (upd H a (NdO P w a (nput xs k p v)))) : bSet P w (.ref a) (.ref p) v H Q := v_setN N kp d l q
theorem BookAt.keepY {c : Cn} {H H' : Hp} {b : Addr} {M N : Addr → Prop} {gs : List Gm} {ds : List Int} (B : BookAt c H b M gs ds) (k : Keep N H H') (n : ∀ x, N x → (∀ l, H x ≠ some (.tup l)) ∧ ∀ C d l, H x ≠ some (.ins C d l)) (d : ∀ x, M x → ¬ N x) : BookAt c H' b M gs ds := by
  obtain ⟨dx, mv, nm, dp, ts, xs, h1, h2, h3, h4, h5, h6, h7, m1, m2, m3, ne, h8⟩ := B.ex
  have kt : ∀ q ys, H q = some (.tup ys) → H' q = some (.tup ys) := fun q ys e => k _ _ (fun z => (n q z).1 _ e) e
  exact ⟨B.ok, B.dok, dx, mv, nm, dp, ts, xs, k _ _ (fun z => (n b z).2 _ _ _ h1) h1, k _ _ (d _ m1) h2, paired_keep h3 fun t g q => q.keep kt, ⟨k _ _ (d _ m2) h4.here, fun x hx => ⟨NkV.keeps kt _ _ (h4.keys x hx).1, (h4.keys x hx).2⟩⟩, h5, h6, k _ _ (d _ m3) h7, m1, m2, m3, ne, h8⟩
abbrev KX := Key × V
theorem valV_mem {kvs : List KX} {k : Key} {v : V} (h : valV kvs k = some v) : ∃ x ∈ kvs, x.1 = k ∧ x.2 = v := by
  unfold valV at h
  obtain ⟨x, hx, rfl⟩ := Option.map_eq_some_iff.mp h
  exact ⟨x, List.mem_of_find?_eq_some hx, by simpa using List.find?_some hx, rfl⟩
theorem valV_none {kvs : List KX} {k : Key} (h : valV kvs k = none) : ∀ x ∈ kvs, x.1 ≠ k := fun x hx e => by
  unfold valV at h
  rw [Option.map_eq_none_iff] at h
  have := List.find?_eq_none.mp h x hx
  simp [e] at this
theorem putK_new {kvs : List KX} {k : Key} {v : V} (h : valV kvs k = none) : putK kvs k v = kvs ++ [(k, v)] := by
  unfold putK
  rw [if_neg]
  intro z
  obtain ⟨x, hx, e⟩ := List.any_eq_true.mp z
  exact valV_none h x hx (by simpa using e)
theorem putK_val {kvs : List KX} {k : Key} {v : V} : valV (putK kvs k v) k = some v := by
  unfold putK
  split
  · rename_i h
    induction kvs with
    | nil => simp at h
    | cons p q ih =>
      rw [List.map_cons]
      by_cases e : p.1 = k
      · rw [if_pos e]; exact valV_pos e
      · rw [if_neg e, valV_neg e]
        exact ih (by simpa [e] using h)
  · rename_i h
    unfold valV
    rw [List.find?_append]
    have : kvs.find? (fun kv => decide (kv.1 = k)) = none := List.find?_eq_none.mpr fun x hx z => h (List.any_eq_true.mpr ⟨x, hx, z⟩)
    rw [this]; simp
theorem putK_len {kvs : List KX} {k : Key} {v : V} : kvs.length ≤ (putK kvs k v).length := by
  unfold putK; split <;> simp
theorem addG_grow {gs : List Gm} {k : Gm} : ∃ f, addG gs k = gs ++ f ∧ f.length ≤ 1 ∧ (k ∈ gs → f = []) := by
  unfold addG; split
  · exact ⟨[], by simp, by simp, fun _ => rfl⟩
  · rename_i h
    exact ⟨[k], rfl, by simp, fun z => absurd z h⟩
theorem DOk.move {gs : List Gm} {ds : List Int} (o : GOk gs) (d : DOk gs ds) {g : Nat} {gm : Gm} {dg : Int} (hg : gs[g]? = some gm) (hd : ds[g]? = some dg) {m : Int} (hm : m ∈ gm.1 ++ gm.2) : ∃ dm, ds[m.toNat]? = some dm ∧ dm + 1 ≤ dg := by
  have low := o.low g gm hg m hm
  have lg := (List.getElem?_eq_some_iff.mp hg).1
  have dl := d.len
  obtain ⟨v, hv⟩ : ∃ v, ds[m.toNat]? = some v := ⟨_, List.getElem?_eq_getElem (by omega)⟩
  refine ⟨v, hv, (d.at_ g gm dg hg hd).2.1 v ?_⟩
  unfold dps
  exact List.mem_map.mpr ⟨m, hm, by rw [hv]; rfl⟩
theorem DOk.le {gs : List Gm} {ds : List Int} (o : GOk gs) (d : DOk gs ds) : ∀ (n g : Nat), g < n → ∀ dg, ds[g]? = some dg → dg ≤ g
  | 0, _, h, _, _ => by omega
  | n + 1, g, h, dg, hd => by
    have hl := (List.getElem?_eq_some_iff.mp hd).1
    obtain ⟨gm, hg⟩ : ∃ x, gs[g]? = some x := ⟨_, List.getElem?_eq_getElem (by have := d.len; omega)⟩
    obtain ⟨p1, p2, p3⟩ := d.at_ g gm dg hg hd
    by_cases z : gm.1 ++ gm.2 = []
    · have := p1 z; omega
    · obtain ⟨u, hu, eu⟩ := p3 z
      obtain ⟨m, hm, em⟩ := List.mem_map.mp hu
      have low := o.low g gm hg m hm
      obtain ⟨v, hv⟩ : ∃ v, ds[m.toNat]? = some v := ⟨_, List.getElem?_eq_getElem (by have := d.len; omega)⟩
      have := DOk.le o d n m.toNat (by omega) v hv
      rw [hv] at em
      have em' : v = u := em
      omega
theorem mvs_dep {gs : List Gm} {ds : List Int} (o : GOk gs) (d : DOk gs ds) {g : Nat} {s : Bool} {m : Int} (h : m ∈ mvs gs g s) {dg : Int} (hd : ds[g]? = some dg) : ∃ dm, ds[m.toNat]? = some dm ∧ dm + 1 ≤ dg := by
  obtain ⟨m0, m1, m2⟩ := mvs_low o h
  have e := List.getElem?_eq_getElem m2
  refine d.move o e hd ?_
  unfold mvs at h; rw [e] at h
  cases s
  · exact List.mem_append_right _ (by simpa using h)
  · exact List.mem_append_left _ (by simpa using h)

/-! no less: the plain law -/
theorem all_eq {α : Type} {f g : α → Bool} : ∀ {l : List α}, (∀ m ∈ l, f m = g m) → l.all f = l.all g
  | [], _ => rfl
  | x :: r, h => by
    rw [List.all_cons, List.all_cons, h x List.mem_cons_self, all_eq fun m hm => h m (List.mem_cons_of_mem _ hm)]
def gR (gs : List Gm) (G : Nat → Nat → Bool) (r y : Nat) : Bool := ((mvs gs r true).any fun l => G l.toNat y) || ((mvs gs y false).any fun q => G r q.toNat)
def gL (gs : List Gm) (G : Nat → Nat → Bool) (x p : Nat) : Bool := ((mvs gs x true).any fun l => G l.toNat p) || ((mvs gs p false).any fun q => G x q.toNat)
def gB (gs : List Gm) (G : Nat → Nat → Bool) (x y : Nat) : Bool := ((mvs gs x false).all fun r => gR gs G r.toNat y) && ((mvs gs y true).all fun p => gL gs G x p.toNat)
theorem gB_congr {gs : List Gm} (o : GOk gs) {G G' : Nat → Nat → Bool} {x y : Nat} (h : ∀ a b, a + b < x + y → a ≤ x → b ≤ y → G a b = G' a b) : gB gs G x y = gB gs G' x y := by
  have e1 : ((mvs gs x false).all fun r => gR gs G r.toNat y) = (mvs gs x false).all fun r => gR gs G' r.toNat y := all_eq fun r hr => by
    have := mvs_low o hr
    have q1 : ((mvs gs r.toNat true).any fun l => G l.toNat y) = (mvs gs r.toNat true).any fun l => G' l.toNat y := any_eq fun l hl => h l.toNat y (by have := mvs_low o hl; omega) (by have := mvs_low o hl; omega) (Nat.le_refl _)
    have q2 : ((mvs gs y false).any fun q => G r.toNat q.toNat) = (mvs gs y false).any fun q => G' r.toNat q.toNat := any_eq fun q hq => h r.toNat q.toNat (by have := mvs_low o hq; omega) (by omega) (by have := mvs_low o hq; omega)
    unfold gR
    rw [q1, q2]
  have e2 : ((mvs gs y true).all fun p => gL gs G x p.toNat) = (mvs gs y true).all fun p => gL gs G' x p.toNat := all_eq fun p hp => by
    have := mvs_low o hp
    have q1 : ((mvs gs x true).any fun l => G l.toNat p.toNat) = (mvs gs x true).any fun l => G' l.toNat p.toNat := any_eq fun l hl => h l.toNat p.toNat (by have := mvs_low o hl; omega) (by have := mvs_low o hl; omega) (by omega)
    have q2 : ((mvs gs p.toNat false).any fun q => G x q.toNat) = (mvs gs p.toNat false).any fun q => G' x q.toNat := any_eq fun q hq => h x q.toNat (by have := mvs_low o hq; omega) (Nat.le_refl _) (by have := mvs_low o hq; omega)
    unfold gL
    rw [q1, q2]
  unfold gB
  rw [e1, e2]
def gl (gs : List Gm) : Nat → Nat → Nat → Bool
  | 0, _, _ => false
  | n + 1, x, y => gB gs (gl gs n) x y
def ge (gs : List Gm) (x y : Nat) : Bool := gl gs (x + y + 1) x y
theorem gl_more {gs : List Gm} (o : GOk gs) : ∀ (n k x y : Nat), x + y < n → n ≤ k → gl gs k x y = gl gs n x y
  | 0, _, _, _, h, _ => by omega
  | n + 1, 0, _, _, _, h => by omega
  | n + 1, k + 1, x, y, h, hk => gB_congr o fun a b hab _ _ => gl_more o n k a b (by omega) (by omega)
theorem ge_eq {gs : List Gm} (o : GOk gs) (x y : Nat) : ge gs x y = gB gs (ge gs) x y := gB_congr o fun a b hab _ _ => by
  unfold ge
  exact gl_more o (a + b + 1) (x + y) a b (by omega) (by omega)
theorem gB_app {gs f : List Gm} (o : GOk gs) {G : Nat → Nat → Bool} {x y : Nat} (hx : x < gs.length) (hy : y < gs.length) : gB (gs ++ f) G x y = gB gs G x y := by
  unfold gB gR gL
  rw [mvs_more hx, mvs_more hy, mvs_more hx, mvs_more hy]
  rw [all_eq (g := fun r => ((mvs gs r.toNat true).any fun l => G l.toNat y) || ((mvs gs y false).any fun q => G r.toNat q.toNat)) fun r hr => by rw [mvs_more (by have := mvs_low o hr; omega)]]
  rw [all_eq (l := mvs gs y true) (g := fun p => ((mvs gs x true).any fun l => G l.toNat p.toNat) || ((mvs gs p.toNat false).any fun q => G x q.toNat)) fun r hr => by rw [mvs_more (by have := mvs_low o hr; omega)]]
theorem gl_app {gs f : List Gm} (o : GOk gs) : ∀ (n x y : Nat), x < gs.length → y < gs.length → gl (gs ++ f) n x y = gl gs n x y
  | 0, _, _, _, _ => rfl
  | n + 1, x, y, hx, hy => by
    show gB (gs ++ f) (gl (gs ++ f) n) x y = gB gs (gl gs n) x y
    rw [gB_app o hx hy]
    exact gB_congr o fun a b _ ha hb => gl_app o n a b (by omega) (by omega)
theorem ge_app {gs f : List Gm} (o : GOk gs) {x y : Nat} (hx : x < gs.length) (hy : y < gs.length) : ge (gs ++ f) x y = ge gs x y := gl_app o _ _ _ hx hy
/-! the moves, by their numbers -/
def MvW (W : Addr → Prop) (H : Hp) (mv : Addr) (gs : List Gm) (A : Nat → Prop) : Prop := ∃ kvs : List KX, H mv = some (.dK kvs) ∧ ∀ g, A g → ∃ gm t, gs[g]? = some gm ∧ valV kvs (.inl (g : Int)) = some (.ref t) ∧ RowAt W H t gm
abbrev MvAt (H : Hp) (mv : Addr) (gs : List Gm) (A : Nat → Prop) : Prop := MvW Nil H mv gs A
theorem RowAt.weak {W W' : Addr → Prop} {H : Hp} {t : Addr} {g : Gm} (r : RowAt W H t g) (s : ∀ x, W' x → W x) : RowAt W' H t g := by
  obtain ⟨a, b, h1, h2, h3, n1, n2, n3⟩ := r
  exact ⟨a, b, h1, h2, h3, fun z => n1 (s _ z), fun z => n2 (s _ z), fun z => n3 (s _ z)⟩
theorem MvW.weak {W W' : Addr → Prop} {H : Hp} {mv : Addr} {gs : List Gm} {A : Nat → Prop} (m : MvW W H mv gs A) (s : ∀ x, W' x → W x) : MvW W' H mv gs A := by
  obtain ⟨kvs, e, h⟩ := m
  exact ⟨kvs, e, fun g hg => by obtain ⟨gm, t, e1, e2, r⟩ := h g hg; exact ⟨gm, t, e1, e2, r.weak s⟩⟩
theorem MvW.keepW {W : Addr → Prop} {H H' : Hp} {mv : Addr} {gs : List Gm} {A : Nat → Prop} (m : MvW W H mv gs A) (k : Keep W H H') (n : ¬ W mv) : MvW W H' mv gs A := by
  obtain ⟨kvs, e, h⟩ := m
  exact ⟨kvs, k _ _ n e, fun g hg => by obtain ⟨gm, t, e1, e2, r⟩ := h g hg; exact ⟨gm, t, e1, e2, r.keep k⟩⟩
theorem MvW.keep {W : Addr → Prop} {H H' : Hp} {mv : Addr} {gs : List Gm} {A : Nat → Prop} {N : Addr → Prop} (m : MvW W H mv gs A) (k : Keep N H H') (n : ∀ x, N x → (∀ l, H x ≠ some (.lst l)) ∧ (∀ l, H x ≠ some (.tup l)) ∧ ∀ l, H x ≠ some (.dK l)) : MvW W H' mv gs A := by
  obtain ⟨kvs, e, h⟩ := m
  refine ⟨kvs, k _ _ (fun z => (n _ z).2.2 _ e) e, fun g hg => ?_⟩
  obtain ⟨gm, t, e1, e2, u, v, h1, h2, h3, w⟩ := h g hg
  exact ⟨gm, t, e1, e2, u, v, k _ _ (fun z => (n _ z).2.1 _ h1) h1, k _ _ (fun z => (n _ z).1 _ h2) h2, k _ _ (fun z => (n _ z).1 _ h3) h3, w⟩
theorem MvW.same {W : Addr → Prop} {H H' : Hp} {mv : Addr} {gs : List Gm} {A : Nat → Prop} (m : MvW W H mv gs A) (k : Keep Nil H H') : MvW W H' mv gs A := m.keep k fun _ z => z.elim
theorem MvW.list {W : Addr → Prop} {H : Hp} {mv : Addr} {gs : List Gm} {A : Nat → Prop} (m : MvW W H mv gs A) {g : Nat} (hg : A g) : ∃ kvs t a b, H mv = some (.dK kvs) ∧ valV kvs (.inl (g : Int)) = some (.ref t) ∧ H t = some (.tup [.ref a, .ref b]) ∧ H a = some (.lst ((mvs gs g true).map V.int)) ∧ H b = some (.lst ((mvs gs g false).map V.int)) := by
  obtain ⟨kvs, e, h⟩ := m
  obtain ⟨gm, t, e1, e2, u, v, h1, h2, h3, _⟩ := h g hg
  refine ⟨kvs, t, u, v, e, e2, h1, ?_, ?_⟩
  · unfold mvs; rw [e1]; exact h2
  · unfold mvs; rw [e1]; exact h3
theorem v_ixMv {P : Program} {w : World} {K : PySem.W.Frag} {H : Hp} {Q : VK} {d : Addr} {kvs : List KX} {g : Int} {v : V} (e : H d = some (.dK kvs)) (h : valV kvs (.inl g) = some v) (q : Q v H) : bIx P w K (.ref d) (.int g) H Q :=
  .inr (.inr (.inr (.inl ⟨d, v, rfl, h ▸ DGet.k (k := .inl g) e, q⟩)))
theorem v_ixKn {P : Program} {w : World} {K : PySem.W.Frag} {H : Hp} {Q : VK} {d p : Addr} {kvs : List (List L2.Key × V)} {a b : Int} {v : V} (e : H d = some (.dT kvs)) (ep : H p = some (.tup [.int a, .int b])) (h : valV kvs [.inl a, .inl b] = some v) (q : Q v H) : bIx P w K (.ref d) (.ref p) H Q :=
  .inr (.inr (.inr (.inl ⟨d, v, rfl, h ▸ DGet.t (k := [.inl a, .inl b]) e ep, q⟩)))
theorem v_ninK {P : Program} {w : World} {K : PySem.W.Frag} {H : Hp} {Q : VK} {d : Addr} {kvs : List KX} {g : Int} (e : H d = some (.dK kvs)) (q : Q (.bl (!(valV kvs (.inl g)).isSome)) H) : cNotIn P w K (.int g) (.ref d) H Q :=
  .inr (.inr (.inr (.inl ⟨d, _, rfl, DGet.k (k := .inl g) e, by simpa using q⟩)))
theorem v_setK {P : Program} {w : World} {H : Hp} {Q : Hp → Prop} {d : Addr} {kvs : List KX} {g : Int} {v : V} (e : H d = some (.dK kvs)) (l : kvs.length < sizeLine) (q : Q (upd H d (.dK (putK kvs (.inl g) v)))) : bSet P w (.ref d) (.int g) v H Q :=
  .inr (.inl ⟨d, _, rfl, DPut.k (k := .inl g) e l, q⟩)
theorem v_setKn {P : Program} {w : World} {H : Hp} {Q : Hp → Prop} {d p : Addr} {kvs : List (List L2.Key × V)} {a b : Int} {v : V} (e : H d = some (.dT kvs)) (ep : H p = some (.tup [.int a, .int b])) (l : kvs.length < sizeLine) (q : Q (upd H d (.dT (putK kvs [.inl a, .inl b] v)))) : bSet P w (.ref d) (.ref p) v H Q :=
  .inr (.inl ⟨d, _, rfl, DPut.t (k := [.inl a, .inl b]) e ep l, q⟩)
theorem v_pop {H : Hp} {Q : VK} {l : Addr} {xs : List V} {y : V} (h : H l = some (.lst (xs ++ [y]))) (k : Q y (upd H l (.lst xs))) : rPop (.ref l) [] H Q :=
  ⟨l, xs ++ [y], y, rfl, rfl, h, by simp, by rw [List.dropLast_concat]; exact k⟩
theorem putK_len1 {κ : Type} [DecidableEq κ] {kvs : List (κ × V)} {k : κ} {v : V} : (putK kvs k v).length ≤ kvs.length + 1 := by
  unfold putK; split <;> simp
theorem r_dget2 {td ty tx : TE} {σ : L2.St} {H : Hp} {Q : VK} (k : td σ H fun x H1 => ∃ a, x = .ref a ∧ IsD H1 a ∧ ty σ H1 fun y H2 => tx σ H2 fun z H3 => ∃ o, DGet H3 a y o ∧ Q (o.getD z) H3) : tDGet2 td ty tx σ H Q := k
theorem r_ienum {K : PySem.W.Frag} {ta : TA} {σ : L2.St} {H : Hp} {R : It → Hp → Prop} (k : ta σ H fun vs H1 => ∃ a xs, vs = [.ref a] ∧ SqL K H1 a xs ∧ R (Ite K a) H1) : iEnum K ta σ H R := k

abbrev N_behind_right : List Str := ["moves", "known", "r", "y", "l", "q"]
theorem sc_behind_right : FnScope N_behind_right ["moves", "known", "r", "y"] (defScope s_behind_right) := ⟨rfl, rfl, rfl, by decide +kernel, rfl, by decide +kernel, by decide +kernel⟩
def t_behind_right (c : Cn) : TS :=
  (tSeq (tFor (iAny c.K (tOp (bIx c.P c.w c.K) (tOp (bIx c.P c.w c.K) (tVar 0) (tVar 2)) (tC (.int 0)))) (gName 4)
  (tIfS (tTru c.K (tDGet2 (tVar 1) (tTup (tCons (tVar 4) (tCons (tVar 3) tNil))) (tC (.bl false))))
  (tRet (tTup (tCons (tVar 4) (tCons (tVar 3) tNil))))
  tNext))
  (tSeq (tFor (iAny c.K (tOp (bIx c.P c.w c.K) (tOp (bIx c.P c.w c.K) (tVar 0) (tVar 3)) (tC (.int 1)))) (gName 5)
  (tIfS (tTru c.K (tDGet2 (tVar 1) (tTup (tCons (tVar 2) (tCons (tVar 5) tNil))) (tC (.bl false))))
  (tRet (tTup (tCons (tVar 2) (tCons (tVar 5) tNil))))
  tNext))
  (tRet (tC .non))))
def sp_behind_right (c : Cn) : Sp := fun vs H Q E => vs.length = 4 ∧ ∃ (mv kn : Addr) (gs : List Gm) (A : Nat → Prop) (G : Nat → Nat → Bool) (kvs : List (List L2.Key × V)) (r y : Nat), vs = [.ref mv, .ref kn, .int r, .int y] ∧ MvAt H mv gs A ∧ A r ∧ A y ∧ GOk gs ∧ H kn = some (.dT kvs) ∧
  (∀ m : Nat, (m : Int) ∈ mvs gs r true → valV kvs [.inl (m : Int), .inl (y : Int)] = some (.bl (G m y))) ∧ (∀ m : Nat, (m : Int) ∈ mvs gs y false → valV kvs [.inl (r : Int), .inl (m : Int)] = some (.bl (G r m))) ∧
  ∀ (H' : Hp) (v : V), Keep Nil H H' → (gR gs G r y = true → ∃ (pa : Addr) (u w : Nat), v = .ref pa ∧ H' pa = some (.tup [.int u, .int w]) ∧ G u w = true ∧ (((u : Int) ∈ mvs gs r true ∧ w = y) ∨ (u = r ∧ (w : Int) ∈ mvs gs y false))) → (gR gs G r y = false → v = .non) → Q v H'
theorem p_behind_right {c : Cn} {mg : Str → Option Value} (T : Txt c mg) {vs : List V} {H : Hp} {Q : VK} {E : XK} (h : sp_behind_right c vs H Q E) : t_behind_right c { nx := fun _ H' => Q .non H', rt := Q } (start N_behind_right vs) H := by
  obtain ⟨_, mv, kn, gs, A, G, kvs, r, y, rfl, M, Aa, Ab, go, ek, h1, h2, k⟩ := h
  obtain ⟨kv, t1, a1, b1, e1, w1, t1', l1, _⟩ := M.list (g := r) Aa
  obtain ⟨kv2, t2, a2, b2, e2, w2, t2', _, l2⟩ := M.list (g := y) Ab
  unfold t_behind_right
  repeat kaf_suf
  refine v_ixMv e1 w1 ?_
  repeat kaf_suf
  refine for_list (xs := (mvs gs r true).map V.int) (fun i σ H' => ∃ (x4 : Option V), σ = [some (.ref mv), some (.ref kn), some (.int r), some (.int y), x4, none] ∧ Keep Nil H H' ∧ ∀ m ∈ (mvs gs r true).take i, G m.toNat y = false) ⟨_, rfl, Keep.refl, fun _ h => by simp at h⟩ ?_ ?_ ?_
  · rintro i σ H' _ ⟨_, _, kk, _⟩; exact SqL.of (kk.get (fun z => z) l1)
  · rintro i x σ H1 hi ⟨x4, rfl, kk, lo⟩
    rw [List.getElem?_map] at hi
    obtain ⟨m, hm, rfl⟩ := Option.map_eq_some_iff.mp hi
    have mm := List.mem_of_getElem? hm
    obtain ⟨m0, _⟩ := mvs_low go mm
    obtain ⟨mn, rfl⟩ := Int.eq_ofNat_of_zero_le m0
    have ek1 := kk.get (fun z => z) ek
    repeat kaf_suf
    refine r_dget2 ?_
    repeat kaf_suf
    refine ⟨kn, rfl, .inr ⟨_, .inl ek1⟩, ?_⟩
    repeat kaf_suf
    intro p hp
    repeat kaf_suf
    refine ⟨_, DGet.t (k := [.inl (mn : Int), .inl (y : Int)]) (get_new hp ek1) upd_same, ?_⟩
    rw [h1 mn mm, Option.getD_some]
    have kp : Keep Nil H (upd H1 p (.tup [.int mn, .int y])) := kk.new hp
    repeat kaf_suf
    refine r_iteB (fun hG => ?_) (fun hG => ?_)
    · repeat kaf_suf
      intro p2 hp2
      refine k _ _ (kp.new hp2) (fun _ => ⟨p2, mn, y, rfl, upd_same, hG, .inl ⟨mm, rfl⟩⟩) fun z => ?_
      have : gR gs G r y = true := by
        unfold gR
        rw [Bool.or_eq_true]
        exact .inl (List.any_eq_true.mpr ⟨_, mm, hG⟩)
      rw [this] at z; cases z
    · repeat kaf_suf
      refine ⟨_, rfl, kp, fun m hm' => ?_⟩
      rw [List.take_succ, hm] at hm'
      rcases List.mem_append.mp hm' with h | h
      · exact lo m h
      · cases List.mem_singleton.mp h; exact hG
  rintro σ H1 ⟨x4, rfl, kk, lo⟩
  rw [List.length_map, List.take_length] at lo
  have e2' := kk.get (fun z => z) e2
  have t2'' := kk.get (fun z => z) t2'
  have l2' := kk.get (fun z => z) l2
  repeat kaf_suf
  refine v_ixMv e2' w2 ?_
  repeat kaf_suf
  refine for_list (xs := (mvs gs y false).map V.int) (fun i σ H' => ∃ (x5 : Option V), σ = [some (.ref mv), some (.ref kn), some (.int r), some (.int y), x4, x5] ∧ Keep Nil H H' ∧ ∀ m ∈ (mvs gs y false).take i, G r m.toNat = false) ⟨_, rfl, kk, fun _ h => by simp at h⟩ ?_ ?_ ?_
  · rintro i σ H' _ ⟨_, _, kk, _⟩; exact SqL.of (kk.get (fun z => z) l2)
  · rintro i x σ H2 hi ⟨x5, rfl, kk2, lo2⟩
    rw [List.getElem?_map] at hi
    obtain ⟨m, hm, rfl⟩ := Option.map_eq_some_iff.mp hi
    have mm := List.mem_of_getElem? hm
    obtain ⟨m0, _⟩ := mvs_low go mm
    obtain ⟨mn, rfl⟩ := Int.eq_ofNat_of_zero_le m0
    have ek1 := kk2.get (fun z => z) ek
    clear kk e2' t2'' l2'
    repeat kaf_suf
    refine r_dget2 ?_
    repeat kaf_suf
    refine ⟨kn, rfl, .inr ⟨_, .inl ek1⟩, ?_⟩
    repeat kaf_suf
    intro p hp
    repeat kaf_suf
    refine ⟨_, DGet.t (k := [.inl (r : Int), .inl (mn : Int)]) (get_new hp ek1) upd_same, ?_⟩
    rw [h2 mn mm, Option.getD_some]
    have kp : Keep Nil H (upd H2 p (.tup [.int r, .int mn])) := kk2.new hp
    repeat kaf_suf
    refine r_iteB (fun hG => ?_) (fun hG => ?_)
    · repeat kaf_suf
      intro p2 hp2
      refine k _ _ (kp.new hp2) (fun _ => ⟨p2, r, mn, rfl, upd_same, hG, .inr ⟨rfl, mm⟩⟩) fun z => ?_
      have : gR gs G r y = true := by
        unfold gR
        rw [Bool.or_eq_true]
        exact .inr (List.any_eq_true.mpr ⟨_, mm, hG⟩)
      rw [this] at z; cases z
    · repeat kaf_suf
      refine ⟨_, rfl, kp, fun m hm' => ?_⟩
      rw [List.take_succ, hm] at hm'
      rcases List.mem_append.mp hm' with h | h
      · exact lo2 m h
      · cases List.mem_singleton.mp h; exact hG
  rintro σ H2 ⟨x5, rfl, kk2, lo2⟩
  rw [List.length_map, List.take_length] at lo2
  have gf : gR gs G r y = false := by
    unfold gR
    rw [Bool.or_eq_false_iff]
    exact ⟨List.any_eq_false.mpr fun m hm => by rw [lo m hm]; simp, List.any_eq_false.mpr fun m hm => by rw [lo2 m hm]; simp⟩
  repeat kaf_suf
  exact k _ _ kk2 (fun z => by rw [gf] at z; cases z) fun _ => rfl
theorem cal_behind_right {c : Cn} {mg : Str → Option Value} {base : Heap} (T : Txt c mg) : Cal c.P c.w c.K mg base CX0 1 "behind_right" (sp_behind_right c) := by
  obtain ⟨f, fd, F, g, b⟩ := T.F_behind_right
  exact ⟨f, fd, ["moves", "known", "r", "y"], F.ok (k := 0) (N := N_behind_right) sc_behind_right (fun vs H Q E h => h.1) (fun cdv A outer s H vs Q E hr h => ⟨t_behind_right c, by
  exact (pss_cons (ps_for PassesOwn.never rfl (pi_any (pe_ix (x_ix (hu64 hr)) (pe_ix (x_ix (hu64 hr)) (pv 0) (pv 2) (fun _ _ => rfl)) pe_int (fun _ _ => rfl))) (pg_name (i := 4) sc_behind_right.nd rfl (Or.inl rfl))
  (pss_one (ps_if (p_tru (pe_dget2 (hu1 hr) (pv 1) (pe_tup (pa_cons (pv 4) (pa_cons (pv 3) pa_nil))) pe_bl ⟨by rfl, by rfl, by rfl, by rfl⟩)) (pss_one (ps_ret (pe_tup (pa_cons (pv 4) (pa_cons (pv 3) pa_nil))))) pss_nil)))
  (pss_cons (ps_for PassesOwn.never rfl (pi_any (pe_ix (x_ix (hu64 hr)) (pe_ix (x_ix (hu64 hr)) (pv 0) (pv 3) (fun _ _ => rfl)) pe_int (fun _ _ => rfl))) (pg_name (i := 5) sc_behind_right.nd rfl (Or.inl rfl))
  (pss_one (ps_if (p_tru (pe_dget2 (hu1 hr) (pv 1) (pe_tup (pa_cons (pv 2) (pa_cons (pv 5) pa_nil))) pe_bl ⟨by rfl, by rfl, by rfl, by rfl⟩)) (pss_one (ps_ret (pe_tup (pa_cons (pv 2) (pa_cons (pv 5) pa_nil))))) pss_nil)))
  (pss_one (ps_ret pe_non)))), p_behind_right T h⟩), g, F.kp, b⟩
abbrev N_behind_left : List Str := ["moves", "known", "x", "p", "l", "q"]
theorem sc_behind_left : FnScope N_behind_left ["moves", "known", "x", "p"] (defScope s_behind_left) := ⟨rfl, rfl, rfl, by decide +kernel, rfl, by decide +kernel, by decide +kernel⟩
def t_behind_left (c : Cn) : TS :=
  (tSeq (tFor (iAny c.K (tOp (bIx c.P c.w c.K) (tOp (bIx c.P c.w c.K) (tVar 0) (tVar 2)) (tC (.int 0)))) (gName 4)
  (tIfS (tTru c.K (tDGet2 (tVar 1) (tTup (tCons (tVar 4) (tCons (tVar 3) tNil))) (tC (.bl false))))
  (tRet (tTup (tCons (tVar 4) (tCons (tVar 3) tNil))))
  tNext))
  (tSeq (tFor (iAny c.K (tOp (bIx c.P c.w c.K) (tOp (bIx c.P c.w c.K) (tVar 0) (tVar 3)) (tC (.int 1)))) (gName 5)
  (tIfS (tTru c.K (tDGet2 (tVar 1) (tTup (tCons (tVar 2) (tCons (tVar 5) tNil))) (tC (.bl false))))
  (tRet (tTup (tCons (tVar 2) (tCons (tVar 5) tNil))))
  tNext))
  (tRet (tC .non))))
def sp_behind_left (c : Cn) : Sp := fun vs H Q E => vs.length = 4 ∧ ∃ (mv kn : Addr) (gs : List Gm) (A : Nat → Prop) (G : Nat → Nat → Bool) (kvs : List (List L2.Key × V)) (x p : Nat), vs = [.ref mv, .ref kn, .int x, .int p] ∧ MvAt H mv gs A ∧ A x ∧ A p ∧ GOk gs ∧ H kn = some (.dT kvs) ∧
  (∀ m : Nat, (m : Int) ∈ mvs gs x true → valV kvs [.inl (m : Int), .inl (p : Int)] = some (.bl (G m p))) ∧ (∀ m : Nat, (m : Int) ∈ mvs gs p false → valV kvs [.inl (x : Int), .inl (m : Int)] = some (.bl (G x m))) ∧
  ∀ (H' : Hp) (v : V), Keep Nil H H' → (gL gs G x p = true → ∃ (pa : Addr) (u w : Nat), v = .ref pa ∧ H' pa = some (.tup [.int u, .int w]) ∧ G u w = true ∧ (((u : Int) ∈ mvs gs x true ∧ w = p) ∨ (u = x ∧ (w : Int) ∈ mvs gs p false))) → (gL gs G x p = false → v = .non) → Q v H'
theorem p_behind_left {c : Cn} {mg : Str → Option Value} (T : Txt c mg) {vs : List V} {H : Hp} {Q : VK} {E : XK} (h : sp_behind_left c vs H Q E) : t_behind_left c { nx := fun _ H' => Q .non H', rt := Q } (start N_behind_left vs) H := by
  obtain ⟨_, mv, kn, gs, A, G, kvs, x, p, rfl, M, Aa, Ab, go, ek, h1, h2, k⟩ := h
  obtain ⟨kv, t1, a1, b1, e1, w1, t1', l1, _⟩ := M.list (g := x) Aa
  obtain ⟨kv2, t2, a2, b2, e2, w2, t2', _, l2⟩ := M.list (g := p) Ab
  unfold t_behind_left
  repeat kaf_suf
  refine v_ixMv e1 w1 ?_
  repeat kaf_suf
  refine for_list (xs := (mvs gs x true).map V.int) (fun i σ H' => ∃ (x4 : Option V), σ = [some (.ref mv), some (.ref kn), some (.int x), some (.int p), x4, none] ∧ Keep Nil H H' ∧ ∀ m ∈ (mvs gs x true).take i, G m.toNat p = false) ⟨_, rfl, Keep.refl, fun _ h => by simp at h⟩ ?_ ?_ ?_
  · rintro i σ H' _ ⟨_, _, kk, _⟩; exact SqL.of (kk.get (fun z => z) l1)
  · rintro i x σ H1 hi ⟨x4, rfl, kk, lo⟩
    rw [List.getElem?_map] at hi
    obtain ⟨m, hm, rfl⟩ := Option.map_eq_some_iff.mp hi
    have mm := List.mem_of_getElem? hm
    obtain ⟨m0, _⟩ := mvs_low go mm
    obtain ⟨mn, rfl⟩ := Int.eq_ofNat_of_zero_le m0
    have ek1 := kk.get (fun z => z) ek
    repeat kaf_suf
    refine r_dget2 ?_
    repeat kaf_suf
    refine ⟨kn, rfl, .inr ⟨_, .inl ek1⟩, ?_⟩
    repeat kaf_suf
    intro pp hpp
    repeat kaf_suf
    refine ⟨_, DGet.t (k := [.inl (mn : Int), .inl (p : Int)]) (get_new hpp ek1) upd_same, ?_⟩
    rw [h1 mn mm, Option.getD_some]
    have kp : Keep Nil H (upd H1 pp (.tup [.int mn, .int p])) := kk.new hpp
    repeat kaf_suf
    refine r_iteB (fun hG => ?_) (fun hG => ?_)
    · repeat kaf_suf
      intro p2 hp2
      refine k _ _ (kp.new hp2) (fun _ => ⟨p2, mn, p, rfl, upd_same, hG, .inl ⟨mm, rfl⟩⟩) fun z => ?_
      have : gL gs G x p = true := by
        unfold gL
        rw [Bool.or_eq_true]
        exact .inl (List.any_eq_true.mpr ⟨_, mm, hG⟩)
      rw [this] at z; cases z
    · repeat kaf_suf
      refine ⟨_, rfl, kp, fun m hm' => ?_⟩
      rw [List.take_succ, hm] at hm'
      rcases List.mem_append.mp hm' with h | h
      · exact lo m h
      · cases List.mem_singleton.mp h; exact hG
  rintro σ H1 ⟨x4, rfl, kk, lo⟩
  rw [List.length_map, List.take_length] at lo
  have e2' := kk.get (fun z => z) e2
  have t2'' := kk.get (fun z => z) t2'
  have l2' := kk.get (fun z => z) l2
  repeat kaf_suf
  refine v_ixMv e2' w2 ?_
  repeat kaf_suf
  refine for_list (xs := (mvs gs p false).map V.int) (fun i σ H' => ∃ (x5 : Option V), σ = [some (.ref mv), some (.ref kn), some (.int x), some (.int p), x4, x5] ∧ Keep Nil H H' ∧ ∀ m ∈ (mvs gs p false).take i, G x m.toNat = false) ⟨_, rfl, kk, fun _ h => by simp at h⟩ ?_ ?_ ?_
  · rintro i σ H' _ ⟨_, _, kk, _⟩; exact SqL.of (kk.get (fun z => z) l2)
  · rintro i x σ H2 hi ⟨x5, rfl, kk2, lo2⟩
    rw [List.getElem?_map] at hi
    obtain ⟨m, hm, rfl⟩ := Option.map_eq_some_iff.mp hi
    have mm := List.mem_of_getElem? hm
    obtain ⟨m0, _⟩ := mvs_low go mm
    obtain ⟨mn, rfl⟩ := Int.eq_ofNat_of_zero_le m0
    have ek1 := kk2.get (fun z => z) ek
    clear kk e2' t2'' l2'
    repeat kaf_suf
    refine r_dget2 ?_
    repeat kaf_suf
    refine ⟨kn, rfl, .inr ⟨_, .inl ek1⟩, ?_⟩
    repeat kaf_suf
    intro pp hpp
    repeat kaf_suf
    refine ⟨_, DGet.t (k := [.inl (x : Int), .inl (mn : Int)]) (get_new hpp ek1) upd_same, ?_⟩
    rw [h2 mn mm, Option.getD_some]
    have kp : Keep Nil H (upd H2 pp (.tup [.int x, .int mn])) := kk2.new hpp
    repeat kaf_suf
    refine r_iteB (fun hG => ?_) (fun hG => ?_)
    · repeat kaf_suf
      intro p2 hp2
      refine k _ _ (kp.new hp2) (fun _ => ⟨p2, x, mn, rfl, upd_same, hG, .inr ⟨rfl, mm⟩⟩) fun z => ?_
      have : gL gs G x p = true := by
        unfold gL
        rw [Bool.or_eq_true]
        exact .inr (List.any_eq_true.mpr ⟨_, mm, hG⟩)
      rw [this] at z; cases z
    · repeat kaf_suf
      refine ⟨_, rfl, kp, fun m hm' => ?_⟩
      rw [List.take_succ, hm] at hm'
      rcases List.mem_append.mp hm' with h | h
      · exact lo2 m h
      · cases List.mem_singleton.mp h; exact hG
  rintro σ H2 ⟨x5, rfl, kk2, lo2⟩
  rw [List.length_map, List.take_length] at lo2
  have gf : gL gs G x p = false := by
    unfold gL
    rw [Bool.or_eq_false_iff]
    exact ⟨List.any_eq_false.mpr fun m hm => by rw [lo m hm]; simp, List.any_eq_false.mpr fun m hm => by rw [lo2 m hm]; simp⟩
  repeat kaf_suf
  exact k _ _ kk2 (fun z => by rw [gf] at z; cases z) fun _ => rfl
theorem cal_behind_left {c : Cn} {mg : Str → Option Value} {base : Heap} (T : Txt c mg) : Cal c.P c.w c.K mg base CX0 1 "behind_left" (sp_behind_left c) := by
  obtain ⟨f, fd, F, g, b⟩ := T.F_behind_left
  exact ⟨f, fd, ["moves", "known", "x", "p"], F.ok (k := 0) (N := N_behind_left) sc_behind_left (fun vs H Q E h => h.1) (fun cdv A outer s H vs Q E hr h => ⟨t_behind_left c, by
  exact (pss_cons (ps_for PassesOwn.never rfl (pi_any (pe_ix (x_ix (hu64 hr)) (pe_ix (x_ix (hu64 hr)) (pv 0) (pv 2) (fun _ _ => rfl)) pe_int (fun _ _ => rfl))) (pg_name (i := 4) sc_behind_left.nd rfl (Or.inl rfl))
  (pss_one (ps_if (p_tru (pe_dget2 (hu1 hr) (pv 1) (pe_tup (pa_cons (pv 4) (pa_cons (pv 3) pa_nil))) pe_bl ⟨by rfl, by rfl, by rfl, by rfl⟩)) (pss_one (ps_ret (pe_tup (pa_cons (pv 4) (pa_cons (pv 3) pa_nil))))) pss_nil)))
  (pss_cons (ps_for PassesOwn.never rfl (pi_any (pe_ix (x_ix (hu64 hr)) (pe_ix (x_ix (hu64 hr)) (pv 0) (pv 3) (fun _ _ => rfl)) pe_int (fun _ _ => rfl))) (pg_name (i := 5) sc_behind_left.nd rfl (Or.inl rfl))
  (pss_one (ps_if (p_tru (pe_dget2 (hu1 hr) (pv 1) (pe_tup (pa_cons (pv 2) (pa_cons (pv 5) pa_nil))) pe_bl ⟨by rfl, by rfl, by rfl, by rfl⟩)) (pss_one (ps_ret (pe_tup (pa_cons (pv 2) (pa_cons (pv 5) pa_nil))))) pss_nil)))
  (pss_one (ps_ret pe_non)))), p_behind_left T h⟩), g, F.kp, b⟩
abbrev N_pair_holds : List Str := ["moves", "known", "x", "y", "r", "p"]
theorem sc_pair_holds : FnScope N_pair_holds ["moves", "known", "x", "y"] (defScope s_pair_holds) := ⟨rfl, rfl, rfl, by decide +kernel, rfl, by decide +kernel, by decide +kernel⟩
def t_pair_holds (c : Cn) : TS :=
  (tSeq (tFor (iAny c.K (tOp (bIx c.P c.w c.K) (tOp (bIx c.P c.w c.K) (tVar 0) (tVar 2)) (tC (.int 1)))) (gName 4)
  (tIfS (tTest (tOp cIs (tCall (sp_behind_right c) [] E0 (tCons (tVar 0) (tCons (tVar 1) (tCons (tVar 4) (tCons (tVar 3) tNil))))) (tC .non)))
  (tRet (tC (.bl false)))
  tNext))
  (tSeq (tFor (iAny c.K (tOp (bIx c.P c.w c.K) (tOp (bIx c.P c.w c.K) (tVar 0) (tVar 3)) (tC (.int 0)))) (gName 5)
  (tIfS (tTest (tOp cIs (tCall (sp_behind_left c) [] E0 (tCons (tVar 0) (tCons (tVar 1) (tCons (tVar 2) (tCons (tVar 5) tNil))))) (tC .non)))
  (tRet (tC (.bl false)))
  tNext))
  (tRet (tC (.bl true)))))
def sp_pair_holds (c : Cn) : Sp := fun vs H Q E => vs.length = 4 ∧ ∃ (mv kn : Addr) (gs : List Gm) (A : Nat → Prop) (G : Nat → Nat → Bool) (kvs : List (List L2.Key × V)) (x y : Nat), vs = [.ref mv, .ref kn, .int x, .int y] ∧ MvAt H mv gs A ∧ (∀ g, A g → ∀ s, ∀ m ∈ mvs gs g s, A m.toNat) ∧ A x ∧ A y ∧ GOk gs ∧ H kn = some (.dT kvs) ∧
  (∀ r : Nat, (r : Int) ∈ mvs gs x false → (∀ m : Nat, (m : Int) ∈ mvs gs r true → valV kvs [.inl (m : Int), .inl (y : Int)] = some (.bl (G m y))) ∧ ∀ m : Nat, (m : Int) ∈ mvs gs y false → valV kvs [.inl (r : Int), .inl (m : Int)] = some (.bl (G r m))) ∧
  (∀ p : Nat, (p : Int) ∈ mvs gs y true → (∀ m : Nat, (m : Int) ∈ mvs gs x true → valV kvs [.inl (m : Int), .inl (p : Int)] = some (.bl (G m p))) ∧ ∀ m : Nat, (m : Int) ∈ mvs gs p false → valV kvs [.inl (x : Int), .inl (m : Int)] = some (.bl (G x m))) ∧
  ∀ (H' : Hp), Keep Nil H H' → Q (.bl (gB gs G x y)) H'
theorem p_pair_holds {c : Cn} {mg : Str → Option Value} (T : Txt c mg) {vs : List V} {H : Hp} {Q : VK} {E : XK} (h : sp_pair_holds c vs H Q E) : t_pair_holds c { nx := fun _ H' => Q .non H', rt := Q } (start N_pair_holds vs) H := by
  obtain ⟨_, mv, kn, gs, A, G, kvs, x, y, rfl, M, cl, Ax, Ay, go, ek, h1, h2, k⟩ := h
  obtain ⟨kv, t1, a1, b1, e1, w1, t1', _, l1⟩ := M.list Ax
  obtain ⟨kv2, t2, a2, b2, e2, w2, t2', l2, _⟩ := M.list Ay
  unfold t_pair_holds
  repeat kaf_suf
  refine v_ixMv e1 w1 ?_
  repeat kaf_suf
  refine for_list (xs := (mvs gs x false).map V.int) (fun i σ H' => ∃ (x4 : Option V), σ = [some (.ref mv), some (.ref kn), some (.int x), some (.int y), x4, none] ∧ Keep Nil H H' ∧ ∀ m ∈ (mvs gs x false).take i, gR gs G m.toNat y = true) ⟨_, rfl, Keep.refl, fun _ h => by simp at h⟩ ?_ ?_ ?_
  · rintro i σ H' _ ⟨_, _, kk, _⟩; exact SqL.of (kk.get (fun z => z) l1)
  · rintro i xx σ H1 hi ⟨x4, rfl, kk, lo⟩
    rw [List.getElem?_map] at hi
    obtain ⟨m, hm, rfl⟩ := Option.map_eq_some_iff.mp hi
    have mm := List.mem_of_getElem? hm
    obtain ⟨m0, _⟩ := mvs_low go mm
    obtain ⟨mn, rfl⟩ := Int.eq_ofNat_of_zero_le m0
    have Am := cl _ Ax _ _ mm
    rw [Int.toNat_natCast] at Am
    repeat kaf_suf
    refine ⟨rfl, mv, kn, gs, A, G, kvs, mn, y, rfl, M.same kk, Am, Ay, go, kk.get (fun z => z) ek, (h1 mn mm).1, (h1 mn mm).2, fun H2 v k2 vt vf => ?_⟩
    cases hG : gR gs G mn y with
    | true =>
      obtain ⟨p, u, w, rfl, _⟩ := vt hG
      repeat kaf_suf
      refine r_iteF' (fun z => by cases z) ?_
      repeat kaf_suf
      refine ⟨_, rfl, kk.trans k2, fun m hm' => ?_⟩
      rw [List.take_succ, hm] at hm'
      rcases List.mem_append.mp hm' with h | h
      · exact lo m h
      · cases List.mem_singleton.mp h; exact hG
    | false =>
      obtain rfl := vf hG
      repeat kaf_suf
      have := k _ (kk.trans k2)
      have gf : gB gs G x y = false := by
        unfold gB
        rw [Bool.and_eq_false_iff]
        exact .inl (List.all_eq_false.mpr ⟨_, mm, by rw [Int.toNat_natCast, hG]; simp⟩)
      rw [gf] at this
      exact this
  rintro σ H1 ⟨x4, rfl, kk, lo⟩
  rw [List.length_map, List.take_length] at lo
  have e2' := kk.get (fun z => z) e2
  have t2'' := kk.get (fun z => z) t2'
  have l2' := kk.get (fun z => z) l2
  repeat kaf_suf
  refine v_ixMv e2' w2 ?_
  repeat kaf_suf
  refine for_list (xs := (mvs gs y true).map V.int) (fun i σ H' => ∃ (x5 : Option V), σ = [some (.ref mv), some (.ref kn), some (.int x), some (.int y), x4, x5] ∧ Keep Nil H H' ∧ ∀ m ∈ (mvs gs y true).take i, gL gs G x m.toNat = true) ⟨_, rfl, kk, fun _ h => by simp at h⟩ ?_ ?_ ?_
  · rintro i σ H' _ ⟨_, _, kk, _⟩; exact SqL.of (kk.get (fun z => z) l2)
  · rintro i xx σ H2 hi ⟨x5, rfl, kk2, lo2⟩
    rw [List.getElem?_map] at hi
    obtain ⟨m, hm, rfl⟩ := Option.map_eq_some_iff.mp hi
    have mm := List.mem_of_getElem? hm
    obtain ⟨m0, _⟩ := mvs_low go mm
    obtain ⟨mn, rfl⟩ := Int.eq_ofNat_of_zero_le m0
    have Am := cl _ Ay _ _ mm
    rw [Int.toNat_natCast] at Am
    clear kk e2' t2'' l2'
    repeat kaf_suf
    refine ⟨rfl, mv, kn, gs, A, G, kvs, x, mn, rfl, M.same kk2, Ax, Am, go, kk2.get (fun z => z) ek, (h2 mn mm).1, (h2 mn mm).2, fun H3 v k3 vt vf => ?_⟩
    cases hG : gL gs G x mn with
    | true =>
      obtain ⟨p, u, w, rfl, _⟩ := vt hG
      repeat kaf_suf
      refine r_iteF' (fun z => by cases z) ?_
      repeat kaf_suf
      refine ⟨_, rfl, kk2.trans k3, fun m hm' => ?_⟩
      rw [List.take_succ, hm] at hm'
      rcases List.mem_append.mp hm' with h | h
      · exact lo2 m h
      · cases List.mem_singleton.mp h; exact hG
    | false =>
      obtain rfl := vf hG
      repeat kaf_suf
      have := k _ (kk2.trans k3)
      have gf : gB gs G x y = false := by
        unfold gB
        rw [Bool.and_eq_false_iff]
        exact .inr (List.all_eq_false.mpr ⟨_, mm, by rw [Int.toNat_natCast, hG]; simp⟩)
      rw [gf] at this
      exact this
  rintro σ H2 ⟨x5, rfl, kk2, lo2⟩
  rw [List.length_map, List.take_length] at lo2
  have := k _ kk2
  have gt : gB gs G x y = true := by
    unfold gB
    rw [Bool.and_eq_true]
    exact ⟨List.all_eq_true.mpr lo, List.all_eq_true.mpr lo2⟩
  rw [gt] at this
  repeat kaf_suf
  exact this
theorem cal_pair_holds {c : Cn} {mg : Str → Option Value} {base : Heap} (T : Txt c mg) : Cal c.P c.w c.K mg base CX0 2 "pair_holds" (sp_pair_holds c) := by
  obtain ⟨f, fd, F, g, b⟩ := T.F_pair_holds
  exact ⟨f, fd, ["moves", "known", "x", "y"], F.ok (k := 1) (N := N_pair_holds) sc_pair_holds (fun vs H Q E h => h.1) (fun cdv A outer s H vs Q E hr h => ⟨t_pair_holds c, by
  exact (pss_cons (ps_for PassesOwn.never rfl (pi_any (pe_ix (x_ix (hu64 hr)) (pe_ix (x_ix (hu64 hr)) (pv 0) (pv 2) (fun _ _ => rfl)) pe_int (fun _ _ => rfl))) (pg_name (i := 4) sc_pair_holds.nd rfl (Or.inl rfl))
  (pss_one (ps_if (pt_cmpR o_is (e_call (cal_behind_right T) hr (by decide) pass0 rfl (pa_cons (pv 0) (pa_cons (pv 1) (pa_cons (pv 4) (pa_cons (pv 3) pa_nil))))) pe_non (nomark _)) (pss_one (ps_ret pe_bl)) pss_nil)))
  (pss_cons (ps_for PassesOwn.never rfl (pi_any (pe_ix (x_ix (hu64 hr)) (pe_ix (x_ix (hu64 hr)) (pv 0) (pv 3) (fun _ _ => rfl)) pe_int (fun _ _ => rfl))) (pg_name (i := 5) sc_pair_holds.nd rfl (Or.inl rfl))
  (pss_one (ps_if (pt_cmpR o_is (e_call (cal_behind_left T) hr (by decide) pass0 rfl (pa_cons (pv 0) (pa_cons (pv 1) (pa_cons (pv 2) (pa_cons (pv 5) pa_nil))))) pe_non (nomark _)) (pss_one (ps_ret pe_bl)) pss_nil)))
  (pss_one (ps_ret pe_bl)))), p_pair_holds T h⟩), g, F.kp, b⟩

abbrev N_reached : List Str := ["book", "g", "found", "waiting", "here", "move"]
theorem sc_reached : FnScope N_reached ["book", "g"] (defScope s_reached) := ⟨rfl, rfl, rfl, by decide +kernel, rfl, by decide +kernel, by decide +kernel⟩
def t_reached (c : Cn) : TS :=
  (tSeq (tDrop (tMeth c.cBook "depth" (sp_Book_depth c) [] E0 (tVar 0) (tCons (tVar 1) tNil)))
  (tSeq (tAsg (tDisp (((tVar 1), (tC (.bl true))) :: [])) (gName 2))
  (tSeq (tAsg (tLst (tCons (tVar 1) tNil)) (gName 3))
  (tSeq (tWhile (tTest (tOp (cNe c.K) (tVar 3) (tLst tNil)))
  (tSeq (tAsg (tBM0 c.K "list" rPop (tVar 3)) (gName 4))
  (tFor (iAny c.K (tOp (bAdd c.K) (tMeth c.cBook "lefts" (sp_Book_lefts c) [] E0 (tVar 0) (tCons (tVar 4) tNil)) (tMeth c.cBook "rights" (sp_Book_rights c) [] E0 (tVar 0) (tCons (tVar 4) tNil)))) (gName 5)
  (tIfS (tTest (tOp (cNotIn c.P c.w c.K) (tVar 5) (tVar 2)))
  (tSeq (tAsg (tC (.bl true)) (gSub (tVar 2) (tVar 5) (bSet c.P c.w)))
  (tDrop (tBM c.K "list" rAppend (tVar 3) (tCons (tVar 5) tNil))))
  tNext))))
  (tRet (tCB (kSorted c.K c.w) (tCons (tVar 2) tNil)))))))
/-- what can be come to from g: rising, closed, none greater -/
structure Rch (gs : List Gm) (g : Nat) (rs : List Int) : Prop where
  up : rs.Pairwise (· < ·)
  mem : (g : Int) ∈ rs
  low : ∀ z ∈ rs, 0 ≤ z ∧ z ≤ g
  cl : ∀ z ∈ rs, ∀ s, ∀ m ∈ mvs gs z.toNat s, m ∈ rs
theorem lt_of_nodup : ∀ {l : List Int}, l.Pairwise (· ≤ ·) → l.Nodup → l.Pairwise (· < ·)
  | [], _, _ => .nil
  | x :: r, h, n => by
    obtain ⟨h1, h2⟩ := List.pairwise_cons.mp h
    obtain ⟨n1, n2⟩ := List.nodup_cons.mp n
    refine List.pairwise_cons.mpr ⟨fun y hy => ?_, lt_of_nodup h2 n2⟩
    have := h1 y hy
    have : x ≠ y := fun e => n1 (e ▸ hy)
    omega
theorem keys_bound {ks : List Int} {g : Nat} (n : ks.Nodup) (h : ∀ z ∈ ks, 0 ≤ z ∧ z ≤ g) : ks.length ≤ g + 1 := by
  have := nodup_le ks ((List.range (g + 1)).map Int.ofNat) n fun z hz => by
    have := h z hz
    exact List.mem_map.mpr ⟨z.toNat, List.mem_range.mpr (by omega), by show ((z.toNat : Nat) : Int) = z; omega⟩
  rw [List.length_map, List.length_range] at this
  exact this
theorem keysM {kvs : List KX} {ks : List Int} (e : kvs.map (·.1) = ks.map Sum.inl) (z : Int) : (valV kvs (.inl z)).isSome = decide (z ∈ ks) := by
  rw [← valV_any]
  have : (kvs.any fun kv => decide (kv.1 = (Sum.inl z : Key))) = (kvs.map (·.1)).any fun k => decide (k = Sum.inl z) := by rw [List.any_map]; rfl
  rw [this, e, List.any_map]
  by_cases h : z ∈ ks
  · rw [decide_eq_true h]
    exact List.any_eq_true.mpr ⟨z, h, by simp⟩
  · rw [decide_eq_false h]
    exact List.any_eq_false.mpr fun y hy => by
      simp only [Function.comp, decide_eq_true_eq]
      intro q; injection q with q; exact h (q ▸ hy)
def sp_reached (c : Cn) : Sp := fun vs H Q E => vs.length = 2 ∧ ∃ (b : Addr) (M : Addr → Prop) (gs : List Gm) (ds : List Int) (g : Nat), vs = [.ref b, .int g] ∧ BookAt c H b M gs ds ∧ g < gs.length ∧ gs.length ≤ 40000 ∧
  ∀ (H' : Hp) (p : Addr) (rs : List Int), Keep Nil H H' → H p = none → H' p = some (.lst (rs.map V.int)) → Rch gs g rs → Q (.ref p) H'
theorem p_reached {c : Cn} {mg : Str → Option Value} (T : Txt c mg) {vs : List V} {H : Hp} {Q : VK} {E : XK} (h : sp_reached c vs H Q E) : t_reached c { nx := fun _ H' => Q .non H', rt := Q } (start N_reached vs) H := by
  obtain ⟨_, b, M, gs, ds, g, rfl, B, hg, few, k⟩ := h
  obtain ⟨dg, hdg⟩ : ∃ v, ds[g]? = some v := ⟨_, List.getElem?_eq_getElem (by have := B.dok.len; omega)⟩
  obtain ⟨bx, bm, bn, bd, hb⟩ := B.ins_
  unfold t_reached
  repeat kaf_suf
  refine ⟨rfl, b, M, gs, ds, g, dg, rfl, B, hdg, ?_⟩
  repeat kaf_suf
  refine fun fd hfd => ?_
  simp only [tPairs]
  repeat kaf_suf
  refine ⟨upd_same, [(.inl (g : Int), .bl true)], rfl, by simp, ?_⟩
  repeat kaf_suf
  intro wt hwt
  repeat kaf_suf
  have k0 : Keep Nil H (upd (upd (upd H fd (.dK [])) fd (.dK (mergeK [] [(.inl (g : Int), .bl true)]))) wt (.lst [.int g])) := ((Keep.alloc hfd).setN hfd).new hwt
  have hwt0 : H wt = none := by
    have := none_of_upd (none_of_upd hwt); exact this
  have efd : (upd (upd (upd H fd (.dK [])) fd (.dK (mergeK [] [(.inl (g : Int), .bl true)]))) wt (.lst [.int g])) fd = some (.dK [(.inl (g : Int), .bl true)]) := get_new hwt upd_same
  have ewt : (upd (upd (upd H fd (.dK [])) fd (.dK (mergeK [] [(.inl (g : Int), .bl true)]))) wt (.lst [.int g])) wt = some (.lst [.int g]) := upd_same
  generalize upd (upd (upd H fd (.dK [])) fd (.dK (mergeK [] [(.inl (g : Int), .bl true)]))) wt (.lst [.int g]) = H0 at k0 efd ewt ⊢
  clear hwt
  have nfw : fd ≠ wt := fun z => by rw [z, ewt] at efd; cases efd
  refine ⟨fun m σ H' => ∃ (x4 x5 : Option V) (ks ws : List Int) (kvs : List KX), σ = [some (.ref b), some (.int g), some (.ref fd), some (.ref wt), x4, x5] ∧ kvs.map (·.1) = ks.map Sum.inl ∧ H' fd = some (.dK kvs) ∧ H' wt = some (.lst (ws.map V.int)) ∧ Keep Nil H H' ∧
    ks.Nodup ∧ (∀ z ∈ ks, 0 ≤ z ∧ z ≤ g) ∧ (g : Int) ∈ ks ∧ (∀ z ∈ ws, z ∈ ks) ∧ (∀ z ∈ ks, z ∉ ws → ∀ s, ∀ m ∈ mvs gs z.toNat s, m ∈ ks) ∧ ws.Nodup ∧ m = 2 * (g + 1 - ks.length) + ws.length, ⟨_, _, _, [(g : Int)], [(g : Int)], _, rfl, rfl, efd, ewt, k0, by simp, (fun z hz => by simp at hz; omega), by simp, (fun z hz => hz), (fun z hz n => absurd hz n), by simp, rfl⟩, ?_⟩
  rintro m σ H1 ⟨x4, x5, ks, ws, kvs, rfl, hks, e1, e2, k1, nd, lo, gm, wk, cl, wl, rfl⟩
  clear efd ewt k0
  repeat kaf_suf
  intro q hq
  repeat kaf_suf
  refine v_neD (dp_ints (get_new hq e2)) (.lst (SqL.of upd_same) .nil) (dInts_sh _) (dInts_sh []) ?_
  rw [show PyData.eqv (dInts ws) (.list []) = decide (ws = []) from eqv_dInts ws []]
  have e1q : (upd H1 q (.lst [])) fd = some (.dK kvs) := get_new hq e1
  have e2q : (upd H1 q (.lst [])) wt = some (.lst (ws.map V.int)) := get_new hq e2
  have k1q : Keep Nil H (upd H1 q (.lst [])) := k1.new hq
  generalize upd H1 q (.lst []) = H2 at e1q e2q k1q ⊢
  clear e1 e2 k1 hq
  have ksb := keys_bound nd lo
  rcases List.eq_nil_or_concat ws with rfl | ⟨w2, z, rfl⟩
  · repeat kaf_suf
    refine r_iteNF' rfl ?_
    repeat kaf_suf
    refine v_sortedD e1q hks fun rs p pr ris hp => ?_
    have rn : rs.Nodup := pr.nodup_iff.mpr nd
    exact k _ p rs (k1q.new hp) (keep_none k1q hp) upd_same ⟨lt_of_nodup ris rn, pr.mem_iff.mpr gm, fun z hz => lo z (pr.mem_iff.mp hz), fun z hz s m hm => pr.mem_iff.mpr (cl z (pr.mem_iff.mp hz) (by simp) s m hm)⟩
  · rw [List.concat_eq_append] at e2q wk cl wl ⊢
    refine r_kB ?_
    refine r_iteNT' (by simp) ?_
    rw [List.map_append] at e2q
    have zk : z ∈ ks := wk z (by simp)
    obtain ⟨z0, zg⟩ := lo z zk
    obtain ⟨zn, rfl⟩ := Int.eq_ofNat_of_zero_le z0
    obtain ⟨gmz, hgz⟩ : ∃ x, gs[zn]? = some x := ⟨_, List.getElem?_eq_getElem (by omega)⟩
    have emz : ∀ s, mvs gs zn s = if s then gmz.1 else gmz.2 := fun s => by unfold mvs; rw [hgz]
    refine ⟨fun σ' H' => ∃ (x4 x5 : Option V) (ks' ws' : List Int) (kvs' : List KX), σ' = [some (.ref b), some (.int g), some (.ref fd), some (.ref wt), x4, x5] ∧ kvs'.map (·.1) = ks'.map Sum.inl ∧ H' fd = some (.dK kvs') ∧ H' wt = some (.lst (ws'.map V.int)) ∧ Keep Nil H H' ∧
      ks'.Nodup ∧ (∀ z ∈ ks', 0 ≤ z ∧ z ≤ g) ∧ (g : Int) ∈ ks' ∧ (∀ z ∈ ws', z ∈ ks') ∧ (∀ z ∈ ks', z ∉ ws' → ∀ s, ∀ m ∈ mvs gs z.toNat s, m ∈ ks') ∧ ws'.Nodup ∧ 2 * (g + 1 - ks'.length) + ws'.length < 2 * (g + 1 - ks.length) + (w2 ++ [(zn : Int)]).length, fun σ' H' ⟨x4, x5, ks', ws', kvs', h1, h2, h3, h4, h5, h6, h7, h8, h9, h10, h11, h12⟩ => ⟨_, h12, x4, x5, ks', ws', kvs', h1, h2, h3, h4, h5, h6, h7, h8, h9, h10, h11, rfl⟩, ?_⟩
    repeat kaf_suf
    refine v_pop e2q ?_
    have e1p : (upd H2 wt (.lst (w2.map V.int))) fd = some (.dK kvs) := get_set nfw e1q
    have e2p : (upd H2 wt (.lst (w2.map V.int))) wt = some (.lst (w2.map V.int)) := upd_same
    have kp : Keep Nil H (upd H2 wt (.lst (w2.map V.int))) := k1q.setN hwt0
    have Bp := B.same kp
    generalize upd H2 wt (.lst (w2.map V.int)) = H3 at e1p e2p kp Bp ⊢
    clear e1q e2q k1q
    obtain ⟨bx3, bm3, bn3, bd3, hb3⟩ := Bp.ins_
    repeat kaf_suf
    refine ⟨rfl, b, M, gs, ds, zn, gmz, rfl, Bp, hgz, fun r1 hr1 => ?_⟩
    repeat kaf_suf
    refine ⟨rfl, b, M, gs, ds, zn, gmz, rfl, Bp.same (Keep.alloc hr1), hgz, fun r2 hr2 => ?_⟩
    have u1 := B.ok.up gmz (List.mem_of_getElem? hgz)
    have lw := B.ok.low zn gmz hgz
    have n1 := up_len _ 0 zn u1.1 (fun x hx => lw x (List.mem_append_left _ hx)) (by omega)
    have n2 := up_len _ 0 zn u1.2 (fun x hx => lw x (List.mem_append_right _ hx)) (by omega)
    repeat kaf_suf
    intro r3 hr3
    have e3 : (upd (upd (upd H3 r1 (.lst (gmz.1.map V.int))) r2 (.lst (gmz.2.map V.int))) r3 (.lst (gmz.1.map V.int ++ gmz.2.map V.int))) r3 = some (.lst ((gmz.1 ++ gmz.2).map V.int)) := by rw [List.map_append]; exact upd_same
    have k3 : Keep Nil H3 (upd (upd (upd H3 r1 (.lst (gmz.1.map V.int))) r2 (.lst (gmz.2.map V.int))) r3 (.lst (gmz.1.map V.int ++ gmz.2.map V.int))) := ((Keep.alloc hr1).new hr2).new hr3
    have e13 := k3.get (fun z => z) e1p
    have e23 := k3.get (fun z => z) e2p
    have k03 := kp.trans k3
    have nr3 : r3 ≠ wt := ne_new hr3 (get_new hr2 (get_new hr1 e2p))
    have nr3' : r3 ≠ fd := ne_new hr3 (get_new hr2 (get_new hr1 e1p))
    generalize upd (upd (upd H3 r1 (.lst (gmz.1.map V.int))) r2 (.lst (gmz.2.map V.int))) r3 (.lst (gmz.1.map V.int ++ gmz.2.map V.int)) = H4 at e3 e13 e23 k03 ⊢
    clear hr1 hr2 hr3 k3 e1p e2p kp Bp hb3
    repeat kaf_suf
    have hfd0 : H fd = none := hfd
    refine for_list (xs := (gmz.1 ++ gmz.2).map V.int) (fun j σ H' => ∃ (x5 : Option V) (ks' ws' : List Int) (kvs' : List KX), σ = [some (.ref b), some (.int g), some (.ref fd), some (.ref wt), some (.int zn), x5] ∧ kvs'.map (·.1) = ks'.map Sum.inl ∧ H' fd = some (.dK kvs') ∧ H' wt = some (.lst (ws'.map V.int)) ∧ Keep Nil H H' ∧ H' r3 = some (.lst ((gmz.1 ++ gmz.2).map V.int)) ∧
      ks'.Nodup ∧ (∀ z ∈ ks', 0 ≤ z ∧ z ≤ g) ∧ (∀ z ∈ ks, z ∈ ks') ∧ (∀ z ∈ ws', z ∈ ks') ∧ (∀ z ∈ w2, z ∈ ws') ∧ (∀ z ∈ ks', z ∉ ks → z ∈ ws') ∧ (∀ m ∈ (gmz.1 ++ gmz.2).take j, m ∈ ks') ∧ ws'.Nodup ∧ ws'.length + ks.length = w2.length + ks'.length) ⟨_, ks, w2, kvs, rfl, hks, e13, e23, k03, e3, nd, lo, (fun z hz => hz), (fun z hz => wk z (by simp [hz])), (fun z hz => hz), (fun z hz n => absurd hz n), (fun m hm => by simp at hm), (List.nodup_append.mp wl).1, rfl⟩ ?_ ?_ ?_
    · rintro j σ H' _ ⟨_, _, _, _, _, _, _, _, _, h, _⟩; exact SqL.of h
    · rintro j x σ H5 hj ⟨x5, ks', ws', kvs', rfl, hks', f1, f2, kk, f3, nd', lo', sub, wk', w2s, new', tk, wl', eq'⟩
      rw [List.getElem?_map] at hj
      obtain ⟨mm, hm, rfl⟩ := Option.map_eq_some_iff.mp hj
      have hmm := List.mem_of_getElem? hm
      obtain ⟨m0, m1⟩ := lw mm hmm
      have tk1 : (gmz.1 ++ gmz.2).take (j + 1) = (gmz.1 ++ gmz.2).take j ++ [mm] := by rw [List.take_succ, hm]; rfl
      have kb := keys_bound nd' lo'
      have wkl := nodup_le ws' ks' wl' wk'
      repeat kaf_suf
      refine v_ninK f1 ?_
      rw [keysM hks']
      refine r_kB (r_iteN (fun hn => ?_) (fun hn => ?_))
      · have wl2 : ws'.length ≤ 90000 := by omega
        repeat kaf_suf
        have lk : kvs'.length = ks'.length := by have := congrArg List.length hks'; rw [List.length_map, List.length_map] at this; exact this
        refine v_setK f1 (few1 (by omega)) ?_
        have f1' : (upd H5 fd (.dK (putK kvs' (.inl mm) (.bl true)))) fd = some (.dK (putK kvs' (.inl mm) (.bl true))) := upd_same
        have f2' : (upd H5 fd (.dK (putK kvs' (.inl mm) (.bl true)))) wt = some (.lst (ws'.map V.int)) := get_set nfw.symm f2
        have f3' : (upd H5 fd (.dK (putK kvs' (.inl mm) (.bl true)))) r3 = some (.lst ((gmz.1 ++ gmz.2).map V.int)) := get_set nr3' f3
        have nn : valV kvs' (.inl mm) = none := by
          have := keysM hks' mm
          rw [decide_eq_false hn] at this
          cases e : valV kvs' (.inl mm) with
          | none => rfl
          | some v => rw [e] at this; cases this
        have kk' : Keep Nil H (upd H5 fd (.dK (putK kvs' (.inl mm) (.bl true)))) := kk.setN hfd0
        generalize hX : upd H5 fd (.dK (putK kvs' (.inl mm) (.bl true))) = H6 at f1' f2' f3' kk' ⊢
        repeat kaf_suf
        refine ⟨_, ks' ++ [mm], ws' ++ [mm], putK kvs' (.inl mm) (.bl true), rfl, by rw [putK_new nn, List.map_append, List.map_append, hks']; rfl, get_set nfw f1', by rw [List.map_append]; exact upd_same, kk'.setN hwt0, get_set nr3 f3', ?_, ?_, (fun z hz => List.mem_append_left _ (sub z hz)), ?_, (fun z hz => List.mem_append_left _ (w2s z hz)), ?_, ?_, ?_, by rw [List.length_append, List.length_append]; simp only [List.length_singleton]; omega⟩
        · rw [List.nodup_append]
          refine ⟨nd', by simp, fun x hx y hy => ?_⟩
          cases List.mem_singleton.mp hy
          exact fun e => hn (e ▸ hx)
        · intro z hz
          rcases List.mem_append.mp hz with h | h
          · exact lo' z h
          · cases List.mem_singleton.mp h; omega
        · intro z hz
          rcases List.mem_append.mp hz with h | h
          · exact List.mem_append_left _ (wk' z h)
          · exact List.mem_append_right _ h
        · intro z hz hn'
          rcases List.mem_append.mp hz with h | h
          · exact List.mem_append_left _ (new' z h hn')
          · exact List.mem_append_right _ h
        · intro m hm'
          rw [tk1] at hm'
          rcases List.mem_append.mp hm' with h | h
          · exact List.mem_append_left _ (tk m h)
          · exact List.mem_append_right _ h
        · rw [List.nodup_append]
          refine ⟨wl', by simp, fun x hx y hy => ?_⟩
          cases List.mem_singleton.mp hy
          exact fun e => hn (e ▸ wk' x hx)
      · repeat kaf_suf
        refine ⟨_, ks', ws', kvs', rfl, hks', f1, f2, kk, f3, nd', lo', sub, wk', w2s, new', fun m hm' => ?_, wl', eq'⟩
        rw [tk1] at hm'
        rcases List.mem_append.mp hm' with h | h
        · exact tk m h
        · cases List.mem_singleton.mp h; exact hn
    · rintro σ H5 ⟨x5, ks', ws', kvs', rfl, hks', f1, f2, kk, f3, nd', lo', sub, wk', w2s, new', tk, wl', eq'⟩
      rw [List.length_map, List.take_length] at tk
      repeat kaf_suf
      refine ⟨_, _, ks', ws', kvs', rfl, hks', f1, f2, kk, nd', lo', sub _ gm, wk', fun y hy hn s m hm => ?_, wl', ?_⟩
      · by_cases e : y = (zn : Int)
        · subst e
          rw [Int.toNat_natCast, emz] at hm
          refine tk m ?_
          cases s
          · exact List.mem_append_right _ hm
          · exact List.mem_append_left _ hm
        · by_cases hy' : y ∈ ks
          · refine sub m (cl y hy' (fun z => ?_) s m hm)
            rcases List.mem_append.mp z with h | h
            · exact hn (w2s y h)
            · exact e (List.mem_singleton.mp h)
          · exact absurd (new' y hy hy') hn
      · have kb := keys_bound nd' lo'
        rw [List.length_append]
        simp only [List.length_singleton]
        have := nodup_le ks ks' nd sub
        omega
theorem cal_reached {c : Cn} {mg : Str → Option Value} {base : Heap} (T : Txt c mg) : Cal c.P c.w c.K mg base CX0 3 "reached" (sp_reached c) := by
  obtain ⟨f, fd, F, g, b⟩ := T.F_reached
  exact ⟨f, fd, ["book", "g"], F.ok (k := 2) (N := N_reached) sc_reached (fun vs H Q E h => h.1) (fun cdv A outer s H vs Q E hr h => ⟨t_reached c, by
  exact (pss_cons (ps_expr (e_meth (met_Book_depth T) hr (by decide) pass0 (pv 0) (pa_cons (pv 1) pa_nil)))
  (pss_cons (ps_set (i := 2) sc_reached.nd rfl (Or.inl rfl) (pe_disp (pps_cons (pv 1) pe_bl pps_nil) rfl rfl (by simp) (by decide)))
  (pss_cons (ps_set (i := 3) sc_reached.nd rfl (Or.inl rfl) (pe_lst (pa_cons (pv 1) pa_nil)))
  (pss_cons (ps_while PassesOwn.never (pt_cmpR (o_ne (hu64 hr)) (pv 3) (pe_lst pa_nil) (nomark _))
  (pss_cons (ps_set (i := 4) sc_reached.nd rfl (Or.inl rfl) (pe_bm0 PySem.F.plainAttrs_list PySem.F.slot_list_pop PySem.F.type_list_pop mt_pop (pv 3)))
  (pss_one (ps_for PassesOwn.never rfl (pi_any (pe_op o_add (e_meth (met_Book_lefts T) hr (by decide) pass0 (pv 0) (pa_cons (pv 4) pa_nil)) (e_meth (met_Book_rights T) hr (by decide) pass0 (pv 0) (pa_cons (pv 4) pa_nil)))) (pg_name (i := 5) sc_reached.nd rfl (Or.inl rfl))
  (pss_one (ps_if (pt_cmpR (o_notin (hu65 hr)) (pv 5) (pv 2) (by rfl)) (pss_cons (ps_asg pe_bl (pg_sub (pv 2) (pv 5) (s_set (hu64 hr))))
  (pss_one (ps_expr (pe_bm PySem.F.plainAttrs_list PySem.F.slot_list_append PySem.F.type_list_append mt_append (pv 3) (pa_cons (pv 5) pa_nil))))) pss_nil))))))
  (pss_one (ps_ret (pe_callB (k_sorted rfl) (by rfl) T.n_sorted (by decide +kernel) (pa_cons (pv 2) pa_nil)))))))), p_reached T h⟩), g, F.kp, b⟩

theorem rowSet {H : Hp} {d t : Addr} {kvs : List KX} {o : HO} {gm : Gm} (r : RowAt Nil H t gm) (e : H d = some (.dK kvs)) : RowAt Nil (upd H d o) t gm := by
  obtain ⟨a, b, h1, h2, h3, w⟩ := r
  exact ⟨a, b, get_set (fun z => by rw [z, e] at h1; cases h1) h1, get_set (fun z => by rw [z, e] at h2; cases h2) h2, get_set (fun z => by rw [z, e] at h3; cases h3) h3, w⟩
theorem take_lt : ∀ {l : List Int} {i : Nat} {x z : Int}, l.Pairwise (· < ·) → l[i]? = some x → z ∈ l → z < x → z ∈ l.take i
  | [], _, _, _, _, h, _, _ => by simp at h
  | a :: r, 0, x, z, u, h, hz, lt => by
    simp at h; subst h
    rcases List.mem_cons.mp hz with e | hz
    · omega
    · have := (List.pairwise_cons.mp u).1 z hz; omega
  | a :: r, i + 1, x, z, u, h, hz, lt => by
    rw [List.take_succ_cons]
    rcases List.mem_cons.mp hz with e | hz
    · exact e ▸ List.mem_cons_self
    · exact List.mem_cons_of_mem _ (take_lt (List.pairwise_cons.mp u).2 (by simpa using h) hz lt)
theorem nodup_lt {l : List Int} (u : l.Pairwise (· < ·)) : l.Nodup := u.imp fun h e => by omega
abbrev N_moves_by : List Str := ["book", "games", "moves", "here"]
theorem sc_moves_by : FnScope N_moves_by ["book", "games"] (defScope s_moves_by) := ⟨rfl, rfl, rfl, by decide +kernel, rfl, by decide +kernel, by decide +kernel⟩
def t_moves_by (c : Cn) : TS :=
  (tSeq (tAsg (uDNew c.P c.w) (gName 2))
  (tSeq (tFor (iAny c.K (tVar 1)) (gName 3)
  (tAsg (tTup (tCons (tMeth c.cBook "lefts" (sp_Book_lefts c) [] E0 (tVar 0) (tCons (tVar 3) tNil)) (tCons (tMeth c.cBook "rights" (sp_Book_rights c) [] E0 (tVar 0) (tCons (tVar 3) tNil)) tNil))) (gSub (tVar 2) (tVar 3) (bSet c.P c.w))))
  (tRet (tVar 2))))
def sp_moves_by (c : Cn) : Sp := fun vs H Q E => vs.length = 2 ∧ ∃ (b l : Addr) (M : Addr → Prop) (gs : List Gm) (ds ns : List Int), vs = [.ref b, .ref l] ∧ BookAt c H b M gs ds ∧ H l = some (.lst (ns.map V.int)) ∧ (∀ z ∈ ns, 0 ≤ z ∧ z < gs.length) ∧ ns.length ≤ 90000 ∧
  ∀ (H' : Hp) (p : Addr), Keep Nil H H' → H p = none → MvAt H' p gs (fun g => (g : Int) ∈ ns) → Q (.ref p) H'
theorem p_moves_by {c : Cn} {mg : Str → Option Value} (T : Txt c mg) {vs : List V} {H : Hp} {Q : VK} {E : XK} (h : sp_moves_by c vs H Q E) : t_moves_by c { nx := fun _ H' => Q .non H', rt := Q } (start N_moves_by vs) H := by
  obtain ⟨_, b, l, M, gs, ds, ns, rfl, B, hl, R, few, k⟩ := h
  unfold t_moves_by
  repeat kaf_suf
  refine .inl ⟨true, fun md hmd => ?_⟩
  rw [if_pos rfl]
  repeat kaf_suf
  refine for_list (xs := ns.map V.int) (fun i σ H' => ∃ (x3 : Option V) (kvs : List KX), σ = [some (.ref b), some (.ref l), some (.ref md), x3] ∧ Keep Nil H H' ∧ H' md = some (.dK kvs) ∧ kvs.length ≤ i ∧ ∀ g : Nat, (g : Int) ∈ ns.take i → ∃ gm t, gs[g]? = some gm ∧ valV kvs (.inl (g : Int)) = some (.ref t) ∧ RowAt Nil H' t gm) ⟨_, [], rfl, Keep.alloc hmd, upd_same, Nat.zero_le _, fun g h => by simp at h⟩ ?_ ?_ ?_
  · rintro i σ H' _ ⟨_, _, _, kk, _⟩; exact SqL.of (kk.get (fun z => z) hl)
  · rintro i x σ H1 hi ⟨x3, kvs, rfl, kk, e1, kl, hk⟩
    rw [List.getElem?_map] at hi
    obtain ⟨m, hm, rfl⟩ := Option.map_eq_some_iff.mp hi
    have il := (List.getElem?_eq_some_iff.mp hm).1
    obtain ⟨m0, m1⟩ := R m (List.mem_of_getElem? hm)
    obtain ⟨g, rfl⟩ := Int.eq_ofNat_of_zero_le m0
    obtain ⟨gm, hg⟩ : ∃ x, gs[g]? = some x := ⟨_, List.getElem?_eq_getElem (by omega)⟩
    have B1 := B.same kk
    obtain ⟨bx, bm, bn, bd, hb⟩ := B1.ins_
    repeat kaf_suf
    refine ⟨rfl, b, M, gs, ds, g, gm, rfl, B1, hg, fun r1 hr1 => ?_⟩
    repeat kaf_suf
    refine ⟨rfl, b, M, gs, ds, g, gm, rfl, B1.same (Keep.alloc hr1), hg, fun r2 hr2 => ?_⟩
    repeat kaf_suf
    intro t ht
    repeat kaf_suf
    have k3 : Keep Nil H1 (upd (upd (upd H1 r1 (.lst (gm.1.map V.int))) r2 (.lst (gm.2.map V.int))) t (.tup [.ref r1, .ref r2])) := ((Keep.alloc hr1).new hr2).new ht
    have rw3 : RowAt Nil (upd (upd (upd H1 r1 (.lst (gm.1.map V.int))) r2 (.lst (gm.2.map V.int))) t (.tup [.ref r1, .ref r2])) t gm := ⟨r1, r2, upd_same, by kaf_pre, by kaf_pre, fun z => z, fun z => z, fun z => z⟩
    have e3 := k3.get (fun z => z) e1
    refine v_setK e3 (few1 (by omega)) ?_
    repeat kaf_suf
    refine ⟨_, _, rfl, (kk.trans k3).setN hmd, upd_same, by have := putK_len1 (kvs := kvs) (k := Sum.inl (g : Int)) (v := V.ref t); omega, fun g' hg' => ?_⟩
    rw [valV_put]
    by_cases e : g' = g
    · subst e
      exact ⟨gm, t, hg, by rw [if_pos rfl], rowSet rw3 e3⟩
    · have ne : ¬ ((Sum.inl (g' : Int) : Key) = Sum.inl (g : Int)) := fun z => by injection z with z; omega
      rw [if_neg ne]
      rw [List.take_succ, hm] at hg'
      rcases List.mem_append.mp hg' with h | h
      · obtain ⟨gm', t', q1, q2, q3⟩ := hk g' h
        exact ⟨gm', t', q1, q2, rowSet (q3.keep k3) e3⟩
      · have := List.mem_singleton.mp h
        omega
  · rintro σ H1 ⟨x3, kvs, rfl, kk, e1, kl, hk⟩
    rw [List.length_map, List.take_length] at hk
    repeat kaf_suf
    exact k _ _ kk hmd ⟨kvs, e1, hk⟩
theorem cal_moves_by {c : Cn} {mg : Str → Option Value} {base : Heap} (T : Txt c mg) : Cal c.P c.w c.K mg base CX0 3 "moves_by" (sp_moves_by c) := by
  obtain ⟨f, fd, F, g, b⟩ := T.F_moves_by
  exact ⟨f, fd, ["book", "games"], F.ok (k := 2) (N := N_moves_by) sc_moves_by (fun vs H Q E h => h.1) (fun cdv A outer s H vs Q E hr h => ⟨t_moves_by c, by
  exact (pss_cons (ps_set (i := 2) sc_moves_by.nd rfl (Or.inl rfl) pe_dnew)
  (pss_cons (ps_for PassesOwn.never rfl (pi_any (pv 1)) (pg_name (i := 3) sc_moves_by.nd rfl (Or.inl rfl))
  (pss_one (ps_asg (pe_tup (pa_cons (e_meth (met_Book_lefts T) hr (by decide) pass0 (pv 0) (pa_cons (pv 3) pa_nil)) (pa_cons (e_meth (met_Book_rights T) hr (by decide) pass0 (pv 0) (pa_cons (pv 3) pa_nil)) pa_nil))) (pg_sub (pv 2) (pv 3) (s_set (hu64 hr))))))
  (pss_one (ps_ret (pv 2))))), p_moves_by T h⟩), g, F.kp, b⟩
abbrev N_pairs_by : List Str := ["book", "g", "h", "ones", "others", "moves", "known", "x", "y"]
theorem sc_pairs_by : FnScope N_pairs_by ["book", "g", "h"] (defScope s_pairs_by) := ⟨rfl, rfl, rfl, by decide +kernel, rfl, by decide +kernel, by decide +kernel⟩
def t_pairs_by (c : Cn) : TS :=
  (tSeq (tAsg (tCall (sp_reached c) [] E0 (tCons (tVar 0) (tCons (tVar 1) tNil))) (gName 3))
  (tSeq (tAsg (tCall (sp_reached c) [] E0 (tCons (tVar 0) (tCons (tVar 2) tNil))) (gName 4))
  (tSeq (tAsg (tCall (sp_moves_by c) [] E0 (tCons (tVar 0) (tCons (tOp (bAdd c.K) (tVar 3) (tVar 4)) tNil))) (gName 5))
  (tSeq (tAsg (uDNew c.P c.w) (gName 6))
  (tSeq (tFor (iAny c.K (tVar 3)) (gName 7)
  (tFor (iAny c.K (tVar 4)) (gName 8)
  (tAsg (tCall (sp_pair_holds c) [] E0 (tCons (tVar 5) (tCons (tVar 6) (tCons (tVar 7) (tCons (tVar 8) tNil))))) (gSub (tVar 6) (tTup (tCons (tVar 7) (tCons (tVar 8) tNil))) (bSet c.P c.w)))))
  (tRet (tTup (tCons (tVar 5) (tCons (tVar 6) tNil)))))))))
def KnOk (gs : List Gm) (kvs : List (List L2.Key × V)) (P : Int → Int → Prop) : Prop := ∀ x y : Nat, P x y → valV kvs [.inl (x : Int), .inl (y : Int)] = some (.bl (ge gs x y))
theorem KnOk.put {gs : List Gm} {kvs : List (List L2.Key × V)} {P P' : Int → Int → Prop} (h : KnOk gs kvs P) {a b : Nat} (n : ∀ x y : Nat, P' x y → P x y ∨ (x = a ∧ y = b)) : KnOk gs (putK kvs [.inl (a : Int), .inl (b : Int)] (.bl (ge gs a b))) P' := fun x y hp => by
  rw [valV_put]
  split
  · rename_i e
    injection e with e1 e
    injection e with e2 _
    injection e1 with e1
    injection e2 with e2
    obtain rfl : x = a := by omega
    obtain rfl : y = b := by omega
    rfl
  · rename_i e
    rcases n x y hp with h' | ⟨rfl, rfl⟩
    · exact h x y h'
    · exact absurd rfl e
def sp_pairs_by (c : Cn) : Sp := fun vs H Q E => vs.length = 3 ∧ ∃ (b : Addr) (M : Addr → Prop) (gs : List Gm) (ds : List Int) (g h : Nat), vs = [.ref b, .int g, .int h] ∧ BookAt c H b M gs ds ∧ g < gs.length ∧ h < gs.length ∧ gs.length ≤ 40000 ∧ (g + 1) * (h + 1) ≤ 90000 ∧
  ∀ (H' : Hp) (p mv kn : Addr) (ones others : List Int) (kvs : List (List L2.Key × V)), Keep Nil H H' → H p = none → H' p = some (.tup [.ref mv, .ref kn]) → MvAt H' mv gs (fun z => (z : Int) ∈ ones ++ others) → H' kn = some (.dT kvs) → KnOk gs kvs (fun x y => x ∈ ones ∧ y ∈ others) → Rch gs g ones → Rch gs h others → Q (.ref p) H'
theorem p_pairs_by {c : Cn} {mg : Str → Option Value} (T : Txt c mg) {vs : List V} {H : Hp} {Q : VK} {E : XK} (h : sp_pairs_by c vs H Q E) : t_pairs_by c { nx := fun _ H' => Q .non H', rt := Q } (start N_pairs_by vs) H := by
  obtain ⟨_, b, M, gs, ds, g, h, rfl, B, hg, hh, few, few2, k⟩ := h
  have go := B.ok
  unfold t_pairs_by
  repeat kaf_suf
  refine ⟨rfl, b, M, gs, ds, g, rfl, B, hg, few, fun H1 p1 r1 k1 hp1 e1 R1 => ?_⟩
  repeat kaf_suf
  refine ⟨rfl, b, M, gs, ds, h, rfl, B.same k1, hh, few, fun H2 p2 r2 k2 hp2 e2 R2 => ?_⟩
  have l1 := keys_bound (nodup_lt R1.up) R1.low
  have l2 := keys_bound (nodup_lt R2.up) R2.low
  have e1' := k2.get (fun z => z) e1
  have k02 := k1.trans k2
  clear k1 k2 e1 hp1 hp2
  repeat kaf_suf
  intro pc hpc
  repeat kaf_suf
  have kc : Keep Nil H2 (upd H2 pc (.lst (r1.map V.int ++ r2.map V.int))) := Keep.alloc hpc
  refine ⟨rfl, b, pc, M, gs, ds, r1 ++ r2, rfl, B.same (k02.trans kc), by rw [List.map_append]; exact upd_same, fun z hz => ?_, by rw [List.length_append]; omega, fun H3 mv k3 hmv Mv => ?_⟩
  · rcases List.mem_append.mp hz with q | q
    · have := R1.low z q; omega
    · have := R2.low z q; omega
  have k03 := k02.trans (kc.trans k3)
  have e13 := k3.get (fun z => z) (kc.get (fun z => z) e1')
  have e23 := k3.get (fun z => z) (kc.get (fun z => z) e2)
  clear k02 kc k3 e1' e2 hpc hmv
  repeat kaf_suf
  refine .inr fun kn hkn => ?_
  have kn0 : H kn = none := keep_none k03 hkn
  have k4 : Keep Nil H3 (upd H3 kn (.dT [])) := Keep.alloc hkn
  have e14 := k4.get (fun z => z) e13
  have e24 := k4.get (fun z => z) e23
  have Mv4 := Mv.same k4
  have k04 := k03.trans k4
  have ek4 : (upd H3 kn (.dT [])) kn = some (.dT []) := upd_same
  generalize upd H3 kn (.dT []) = H4 at e14 e24 Mv4 k04 ek4 ⊢
  clear k4 k03 e13 e23 Mv hkn
  have n1 : p1 ≠ kn := fun z => by rw [z, ek4] at e14; cases e14
  have n2 : p2 ≠ kn := fun z => by rw [z, ek4] at e24; cases e24
  have cl : ∀ g : Nat, (g : Int) ∈ r1 ++ r2 → ∀ s, ∀ m ∈ mvs gs g s, ((m.toNat : Nat) : Int) ∈ r1 ++ r2 := fun g hg s m hm => by
    have := mvs_low go hm
    rw [show ((m.toNat : Nat) : Int) = m by omega]
    rcases List.mem_append.mp hg with q | q
    · exact List.mem_append_left _ (R1.cl _ q s m (by rw [Int.toNat_natCast]; exact hm))
    · exact List.mem_append_right _ (R2.cl _ q s m (by rw [Int.toNat_natCast]; exact hm))
  have c1 : ∀ g : Nat, (g : Int) ∈ r1 → ∀ s, ∀ m : Nat, (m : Int) ∈ mvs gs g s → (m : Int) ∈ r1 := fun g hg s m hm => R1.cl _ hg s m (by rw [Int.toNat_natCast]; exact hm)
  have c2 : ∀ g : Nat, (g : Int) ∈ r2 → ∀ s, ∀ m : Nat, (m : Int) ∈ mvs gs g s → (m : Int) ∈ r2 := fun g hg s m hm => R2.cl _ hg s m (by rw [Int.toNat_natCast]; exact hm)
  repeat kaf_suf
  refine for_list (xs := r1.map V.int) (fun i σ H' => ∃ (x7 x8 : Option V) (kvs : List (List L2.Key × V)), σ = [some (.ref b), some (.int g), some (.int h), some (.ref p1), some (.ref p2), some (.ref mv), some (.ref kn), x7, x8] ∧ Keep Nil H H' ∧ H' p1 = some (.lst (r1.map V.int)) ∧ H' p2 = some (.lst (r2.map V.int)) ∧ MvAt H' mv gs (fun z => (z : Int) ∈ r1 ++ r2) ∧ H' kn = some (.dT kvs) ∧ kvs.length ≤ i * r2.length ∧ KnOk gs kvs fun x y => x ∈ r1.take i ∧ y ∈ r2) ⟨_, _, [], rfl, k04, e14, e24, Mv4, ek4, by simp, fun x y hp => by simp at hp⟩ ?_ ?_ ?_
  · rintro i σ H' _ ⟨_, _, _, _, _, h, _⟩; exact SqL.of h
  · rintro i xx σ H5 hi ⟨x7, x8, kvs, rfl, k5, f1, f2, Mv5, fk, kl, ok⟩
    rw [List.getElem?_map] at hi
    obtain ⟨xv, hx, rfl⟩ := Option.map_eq_some_iff.mp hi
    have xm := List.mem_of_getElem? hx
    have il := (List.getElem?_eq_some_iff.mp hx).1
    obtain ⟨xn, rfl⟩ := Int.eq_ofNat_of_zero_le (R1.low xv xm).1
    repeat kaf_suf
    refine for_list (xs := r2.map V.int) (fun j σ H' => ∃ (x8 : Option V) (kvs : List (List L2.Key × V)), σ = [some (.ref b), some (.int g), some (.int h), some (.ref p1), some (.ref p2), some (.ref mv), some (.ref kn), some (.int xn), x8] ∧ Keep Nil H H' ∧ H' p1 = some (.lst (r1.map V.int)) ∧ H' p2 = some (.lst (r2.map V.int)) ∧ MvAt H' mv gs (fun z => (z : Int) ∈ r1 ++ r2) ∧ H' kn = some (.dT kvs) ∧ kvs.length ≤ i * r2.length + j ∧ KnOk gs kvs fun x y => (x ∈ r1.take i ∧ y ∈ r2) ∨ (x = xn ∧ y ∈ r2.take j)) ⟨_, kvs, rfl, k5, f1, f2, Mv5, fk, kl, fun x y hp => ok x y (hp.elim (fun z => z) fun z => by simp at z)⟩ ?_ ?_ ?_
    · rintro j σ H' _ ⟨_, _, _, _, _, h, _⟩; exact SqL.of h
    · rintro j yy σ H6 hj ⟨x8, kvs6, rfl, k6, g1, g2, Mv6, gk, kl6, ok6⟩
      rw [List.getElem?_map] at hj
      obtain ⟨yv, hy, rfl⟩ := Option.map_eq_some_iff.mp hj
      have ym := List.mem_of_getElem? hy
      have jl := (List.getElem?_eq_some_iff.mp hy).1
      obtain ⟨yn, rfl⟩ := Int.eq_ofNat_of_zero_le (R2.low yv ym).1
      clear k5 f1 f2 Mv5 fk kl ok
      have Ax : ((xn : Int)) ∈ r1 ++ r2 := List.mem_append_left _ xm
      have Ay : ((yn : Int)) ∈ r1 ++ r2 := List.mem_append_right _ ym
      have bl : i * r2.length + j + 1 ≤ 90000 := by
        have q1 : (i + 1) * r2.length ≤ r1.length * r2.length := Nat.mul_le_mul_right _ il
        have q2 : r1.length * r2.length ≤ (g + 1) * (h + 1) := Nat.mul_le_mul l1 l2
        rw [Nat.succ_mul] at q1
        omega
      repeat kaf_suf
      refine ⟨rfl, mv, kn, gs, _, ge gs, kvs6, xn, yn, rfl, Mv6, cl, Ax, Ay, go, gk, fun r hr => ⟨fun m hm => ok6 m yn (.inl ⟨?_, ym⟩), fun m hm => ok6 r m (.inl ⟨?_, ?_⟩)⟩, fun q hq => ⟨fun m hm => ok6 m q (.inl ⟨?_, ?_⟩), fun m hm => ok6 xn m (.inr ⟨rfl, ?_⟩)⟩, fun H7 k7 => ?_⟩
      · have a1 := mvs_low go hr
        have a2 := mvs_low go hm
        exact take_lt R1.up hx (c1 r (c1 xn xm _ r hr) _ m hm) (by omega)
      · have a1 := mvs_low go hr
        exact take_lt R1.up hx (c1 xn xm _ r hr) (by omega)
      · exact c2 yn ym _ m hm
      · have a1 := mvs_low go hm
        exact take_lt R1.up hx (c1 xn xm _ m hm) (by omega)
      · exact c2 yn ym _ q hq
      · have a1 := mvs_low go hq
        have a2 := mvs_low go hm
        exact take_lt R2.up hy (c2 q (c2 yn ym _ q hq) _ m hm) (by omega)
      rw [← ge_eq go]
      have k67 := k6.trans k7
      have g17 := k7.get (fun z => z) g1
      have g27 := k7.get (fun z => z) g2
      have gk7 := k7.get (fun z => z) gk
      have Mv7 := Mv6.same k7
      repeat kaf_suf
      intro q hq
      repeat kaf_suf
      have kq : Keep Nil H7 (upd H7 q (.tup [.int xn, .int yn])) := Keep.alloc hq
      refine v_setKn (kq.get (fun z => z) gk7) upd_same (few1 (by omega)) ?_
      have gkq := kq.get (fun z => z) gk7
      repeat kaf_suf
      refine ⟨_, _, rfl, (k67.trans kq).setN kn0, get_set n1 (kq.get (fun z => z) g17), get_set n2 (kq.get (fun z => z) g27), (Mv7.same kq).keep (N := fun x => x = kn) (Keep.refl.set rfl) fun x e => ?_, upd_same, ?_, ok6.put fun x y hp => ?_⟩
      · subst e
        exact ⟨(fun l z => by rw [gkq] at z; cases z), (fun l z => by rw [gkq] at z; cases z), (fun l z => by rw [gkq] at z; cases z)⟩
      · have := putK_len1 (kvs := kvs6) (k := [Sum.inl (xn : Int), Sum.inl (yn : Int)]) (v := V.bl (ge gs xn yn)); omega
      · rcases hp with hp | ⟨e, hp⟩
        · exact .inl (.inl hp)
        · rw [List.take_succ, hy] at hp
          rcases List.mem_append.mp hp with w | w
          · exact .inl (.inr ⟨e, w⟩)
          · have := List.mem_singleton.mp w
            exact .inr ⟨by omega, by omega⟩
    · rintro σ H6 ⟨x8, kvs, rfl, k6, f1, f2, Mv6, fk, kl, ok⟩
      rw [List.length_map] at kl ok
      rw [List.take_length] at ok
      repeat kaf_suf
      refine ⟨_, _, kvs, rfl, k6, f1, f2, Mv6, fk, by rw [Nat.succ_mul]; exact kl, fun x y hp => ok x y ?_⟩
      rw [List.take_succ, hx] at hp
      rcases List.mem_append.mp hp.1 with q | q
      · exact .inl ⟨q, hp.2⟩
      · exact .inr ⟨List.mem_singleton.mp q, hp.2⟩
  · rintro σ H5 ⟨x7, x8, kvs, rfl, k5, f1, f2, Mv5, fk, kl, ok⟩
    rw [List.length_map, List.take_length] at ok
    repeat kaf_suf
    intro p hp
    have kp : Keep Nil H5 (upd H5 p (.tup [.ref mv, .ref kn])) := Keep.alloc hp
    exact k _ p mv kn r1 r2 kvs (k5.trans kp) (keep_none k5 hp) upd_same (Mv5.same kp) (kp.get (fun z => z) fk) ok R1 R2
theorem cal_pairs_by {c : Cn} {mg : Str → Option Value} {base : Heap} (T : Txt c mg) : Cal c.P c.w c.K mg base CX0 4 "pairs_by" (sp_pairs_by c) := by
  obtain ⟨f, fd, F, g, b⟩ := T.F_pairs_by
  exact ⟨f, fd, ["book", "g", "h"], F.ok (k := 3) (N := N_pairs_by) sc_pairs_by (fun vs H Q E h => h.1) (fun cdv A outer s H vs Q E hr h => ⟨t_pairs_by c, by
  exact (pss_cons (ps_set (i := 3) sc_pairs_by.nd rfl (Or.inl rfl) (e_call (cal_reached T) hr (by decide) pass0 rfl (pa_cons (pv 0) (pa_cons (pv 1) pa_nil))))
  (pss_cons (ps_set (i := 4) sc_pairs_by.nd rfl (Or.inl rfl) (e_call (cal_reached T) hr (by decide) pass0 rfl (pa_cons (pv 0) (pa_cons (pv 2) pa_nil))))
  (pss_cons (ps_set (i := 5) sc_pairs_by.nd rfl (Or.inl rfl) (e_call (cal_moves_by T) hr (by decide) pass0 rfl (pa_cons (pv 0) (pa_cons (pe_op o_add (pv 3) (pv 4)) pa_nil))))
  (pss_cons (ps_set (i := 6) sc_pairs_by.nd rfl (Or.inl rfl) pe_dnew)
  (pss_cons (ps_for PassesOwn.never rfl (pi_any (pv 3)) (pg_name (i := 7) sc_pairs_by.nd rfl (Or.inl rfl))
  (pss_one (ps_for PassesOwn.never rfl (pi_any (pv 4)) (pg_name (i := 8) sc_pairs_by.nd rfl (Or.inl rfl))
  (pss_one (ps_asg (e_call (cal_pair_holds T) hr (by decide) pass0 rfl (pa_cons (pv 5) (pa_cons (pv 6) (pa_cons (pv 7) (pa_cons (pv 8) pa_nil))))) (pg_sub (pv 6) (pe_tup (pa_cons (pv 7) (pa_cons (pv 8) pa_nil))) (s_set (hu64 hr))))))))
  (pss_one (ps_ret (pe_tup (pa_cons (pv 5) (pa_cons (pv 6) pa_nil)))))))))), p_pairs_by T h⟩), g, F.kp, b⟩
abbrev N_no_less : List Str := ["book", "g", "h", "moves", "known"]
theorem sc_no_less : FnScope N_no_less ["book", "g", "h"] (defScope s_no_less) := ⟨rfl, rfl, rfl, by decide +kernel, rfl, by decide +kernel, by decide +kernel⟩
def t_no_less (c : Cn) : TS :=
  (tSeq (tAsg (tCall (sp_pairs_by c) [] E0 (tCons (tVar 0) (tCons (tVar 1) (tCons (tVar 2) tNil)))) (gSeq c.K 2 (gCons (gName 3) (gCons (gName 4) gNil))))
  (tRet (tOp (bIx c.P c.w c.K) (tVar 4) (tTup (tCons (tVar 1) (tCons (tVar 2) tNil))))))
def sp_no_less (c : Cn) : Sp := fun vs H Q E => vs.length = 3 ∧ ∃ (b : Addr) (M : Addr → Prop) (gs : List Gm) (ds : List Int) (g h : Nat), vs = [.ref b, .int g, .int h] ∧ BookAt c H b M gs ds ∧ g < gs.length ∧ h < gs.length ∧ gs.length ≤ 40000 ∧ (g + 1) * (h + 1) ≤ 90000 ∧
  ∀ (H' : Hp), Keep Nil H H' → Q (.bl (ge gs g h)) H'
theorem p_no_less {c : Cn} {mg : Str → Option Value} (T : Txt c mg) {vs : List V} {H : Hp} {Q : VK} {E : XK} (h : sp_no_less c vs H Q E) : t_no_less c { nx := fun _ H' => Q .non H', rt := Q } (start N_no_less vs) H := by
  obtain ⟨_, b, M, gs, ds, g, h, rfl, B, hg, hh, few, few2, k⟩ := h
  unfold t_no_less
  repeat kaf_suf
  refine ⟨rfl, b, M, gs, ds, g, h, rfl, B, hg, hh, few, few2, fun H1 p mv kn r1 r2 kvs k1 hp ep Mv ek ok R1 R2 => ?_⟩
  refine r_seqT ep rfl (r_gcons ?_)
  repeat kaf_suf
  refine r_gcons ?_
  repeat kaf_suf
  refine r_gnil ?_
  repeat kaf_suf
  intro q hq
  repeat kaf_suf
  exact v_ixKn (get_new hq ek) upd_same (ok g h ⟨R1.mem, R2.mem⟩) (k _ (k1.new hq))
theorem cal_no_less {c : Cn} {mg : Str → Option Value} {base : Heap} (T : Txt c mg) : Cal c.P c.w c.K mg base CX0 5 "no_less" (sp_no_less c) := by
  obtain ⟨f, fd, F, g, b⟩ := T.F_no_less
  exact ⟨f, fd, ["book", "g", "h"], F.ok (k := 4) (N := N_no_less) sc_no_less (fun vs H Q E h => h.1) (fun cdv A outer s H vs Q E hr h => ⟨t_no_less c, by
  exact (pss_cons (ps_asg (e_call (cal_pairs_by T) hr (by decide) pass0 rfl (pa_cons (pv 0) (pa_cons (pv 1) (pa_cons (pv 2) pa_nil)))) (g_seq rfl (pgs_cons (pg_name (i := 3) sc_no_less.nd rfl (Or.inl rfl)) (pgs_cons (pg_name (i := 4) sc_no_less.nd rfl (Or.inl rfl)) pgs_nil))))
  (pss_one (ps_ret (pe_ix (x_ix (hu64 hr)) (pv 4) (pe_tup (pa_cons (pv 1) (pa_cons (pv 2) pa_nil))) (fun _ _ => rfl))))), p_no_less T h⟩), g, F.kp, b⟩

local macro_rules | `(tactic| kaf_suf) => `(tactic| first
  | with_reducible refine r_gcons ?_
  | with_reducible refine r_gnil ?_
  | ((with_reducible refine' r_seqT ?a ?b ?_); (case a => (kaf_pre; done)); (case b => rfl))
  | ((with_reducible refine' r_seqL ?a ?b ?_); (case a => (kaf_pre; done)); (case b => rfl)))

/-! least forms: the first walks -/
theorem take_snocP {α : Type} {l : List α} {j : Nat} {x : α} (h : l[j]? = some x) {P : α → Prop} (a : ∀ y ∈ l.take j, P y) (b : P x) : ∀ y ∈ l.take (j + 1), P y := fun y hy => by
  rw [List.take_succ, h] at hy
  rcases List.mem_append.mp hy with q | q
  · exact a y q
  · cases List.mem_singleton.mp q; exact b
def sd (s : Bool) : Str := if s = true then "left" else "right"
theorem sd_ne : ¬ sd false = "left" := by decide
theorem sd_eq : sd true = "left" := rfl
def bt (gs : List Gm) (s : Bool) (m by_ : Nat) : Bool := if s = true then ge gs by_ m else ge gs m by_
def an (gs : List Gm) (s : Bool) (g a : Nat) : Bool := if s = true then ge gs g a else ge gs a g
inductive Rc (gs : List Gm) (g : Nat) : Nat → Prop
  | refl : Rc gs g g
  | step {h : Nat} {s : Bool} {m : Int} : Rc gs g h → m ∈ mvs gs h s → Rc gs g m.toNat
theorem Rc.le {gs : List Gm} (o : GOk gs) {g h : Nat} (r : Rc gs g h) : h ≤ g := by
  induction r with
  | refl => exact Nat.le_refl _
  | step _ hm ih => have := mvs_low o hm; omega
def RcS (gs : List Gm) (g : Nat) (rs : List Int) : Prop := ∀ z : Int, z ∈ rs ↔ 0 ≤ z ∧ Rc gs g z.toNat
theorem rc_all {gs : List Gm} (o : GOk gs) {g : Nat} {rs : List Int} (hg : (g : Int) ∈ rs) (lo : ∀ z ∈ rs, 0 ≤ z) (cl : ∀ z ∈ rs, ∀ s, ∀ m ∈ mvs gs z.toNat s, m ∈ rs) (rc : ∀ z ∈ rs, Rc gs g z.toNat) : RcS gs g rs := by
  have all : ∀ h, Rc gs g h → (h : Int) ∈ rs := fun h r => by
    induction r with
    | refl => exact hg
    | step _ hm ih =>
      have := mvs_low o hm
      rw [Int.toNat_of_nonneg this.1]
      exact cl _ ih _ _ (by rw [Int.toNat_natCast]; exact hm)
  exact fun z => ⟨fun h => ⟨lo z h, rc z h⟩, fun ⟨z0, h⟩ => by have := all _ h; rw [Int.toNat_of_nonneg z0] at this; exact this⟩
theorem mvs_up {gs : List Gm} (o : GOk gs) {g : Nat} {s : Bool} : (mvs gs g s).Pairwise (· < ·) := by
  unfold mvs
  cases e : gs[g]? with
  | none => exact List.Pairwise.nil
  | some x =>
    have up := o.up x (List.mem_of_getElem? e)
    cases s
    · exact up.2
    · exact up.1
theorem mvs_len {gs : List Gm} (o : GOk gs) {g : Nat} {s : Bool} (hg : g < gs.length) : (mvs gs g s).length ≤ g := by
  have := up_len _ 0 g (mvs_up o (g := g) (s := s)) (fun x hx => by have := mvs_low o hx; omega) (by omega)
  omega
theorem mvs_gm {gs : List Gm} {g : Nat} {gm : Gm} (h : gs[g]? = some gm) (s : Bool) : mvs gs g s = if s = true then gm.1 else gm.2 := by unfold mvs; rw [h]
abbrev N_moves_of : List Str := ["book", "g", "side"]
theorem sc_moves_of : FnScope N_moves_of ["book", "g", "side"] (defScope s_moves_of) := ⟨rfl, rfl, rfl, by decide +kernel, rfl, by decide +kernel, by decide +kernel⟩
def t_moves_of (c : Cn) : TS :=
  (tSeq (tIfS (tTest (tOp (cEq c.K) (tVar 2) (tC (.str "left"))))
  (tRet (tMeth c.cBook "lefts" (sp_Book_lefts c) [] E0 (tVar 0) (tCons (tVar 1) tNil)))
  tNext)
  (tRet (tMeth c.cBook "rights" (sp_Book_rights c) [] E0 (tVar 0) (tCons (tVar 1) tNil))))
def sp_moves_of (c : Cn) : Sp := fun vs H Q E => vs.length = 3 ∧ ∃ (b : Addr) (M : Addr → Prop) (gs : List Gm) (ds : List Int) (g : Nat) (s : Bool), vs = [.ref b, .int g, .str (sd s)] ∧ BookAt c H b M gs ds ∧ g < gs.length ∧ ∀ p, H p = none → Q (.ref p) (upd H p (.lst ((mvs gs g s).map V.int)))
theorem p_moves_of {c : Cn} {mg : Str → Option Value} (T : Txt c mg) {vs : List V} {H : Hp} {Q : VK} {E : XK} (h : sp_moves_of c vs H Q E) : t_moves_of c { nx := fun _ H' => Q .non H', rt := Q } (start N_moves_of vs) H := by
  obtain ⟨_, b, M, gs, ds, g, s, rfl, B, hg, k⟩ := h
  obtain ⟨gm, hgm⟩ : ∃ x, gs[g]? = some x := ⟨_, List.getElem?_eq_getElem hg⟩
  have em := mvs_gm hgm s
  rw [em] at k
  obtain ⟨dx, mv, nm, dp, hb⟩ := B.ins_
  have h1 := sd_ne
  have h2 := sd_eq
  unfold t_moves_of
  cases s
  · repeat kaf_suf
    refine ⟨rfl, b, M, gs, ds, g, gm, rfl, B, hgm, fun p hp => ?_⟩
    repeat kaf_suf
    exact k p hp
  · repeat kaf_suf
    refine ⟨rfl, b, M, gs, ds, g, gm, rfl, B, hgm, fun p hp => ?_⟩
    repeat kaf_suf
    exact k p hp
theorem cal_moves_of {c : Cn} {mg : Str → Option Value} {base : Heap} (T : Txt c mg) : Cal c.P c.w c.K mg base CX0 3 "moves_of" (sp_moves_of c) := by
  obtain ⟨f, fd, F, g, b⟩ := T.F_moves_of
  exact ⟨f, fd, ["book", "g", "side"], F.ok (k := 2) (N := N_moves_of) sc_moves_of (fun vs H Q E h => h.1) (fun cdv A outer s H vs Q E hr h => ⟨t_moves_of c, by
  exact (pss_cons (ps_if (pt_cmpR (o_eq (hu64 hr)) (pv 2) pe_str (nomark _)) (pss_one (ps_ret (e_meth (met_Book_lefts T) hr (by decide) pass0 (pv 0) (pa_cons (pv 1) pa_nil)))) pss_nil)
  (pss_one (ps_ret (e_meth (met_Book_rights T) hr (by decide) pass0 (pv 0) (pa_cons (pv 1) pa_nil))))), p_moves_of T h⟩), g, F.kp, b⟩
abbrev N_other_side : List Str := ["side"]
theorem sc_other_side : FnScope N_other_side ["side"] (defScope s_other_side) := ⟨rfl, rfl, rfl, by decide +kernel, rfl, by decide +kernel, by decide +kernel⟩
def t_other_side (c : Cn) : TS :=
  (tSeq (tIfS (tTest (tOp (cEq c.K) (tVar 0) (tC (.str "left"))))
  (tRet (tC (.str "right")))
  tNext)
  (tRet (tC (.str "left"))))
def sp_other_side (c : Cn) : Sp := fun vs H Q E => vs.length = 1 ∧ ∃ (s : Bool), vs = [.str (sd s)] ∧ Q (.str (sd (!s))) H
theorem p_other_side {c : Cn} {mg : Str → Option Value} (T : Txt c mg) {vs : List V} {H : Hp} {Q : VK} {E : XK} (h : sp_other_side c vs H Q E) : t_other_side c { nx := fun _ H' => Q .non H', rt := Q } (start N_other_side vs) H := by
  obtain ⟨_, s, rfl, k⟩ := h
  have h1 := sd_ne
  have h2 := sd_eq
  unfold t_other_side
  cases s
  · repeat kaf_suf
    exact k
  · repeat kaf_suf
    exact k
theorem cal_other_side {c : Cn} {mg : Str → Option Value} {base : Heap} (T : Txt c mg) : Cal c.P c.w c.K mg base CX0 1 "other_side" (sp_other_side c) := by
  obtain ⟨f, fd, F, g, b⟩ := T.F_other_side
  exact ⟨f, fd, ["side"], F.ok (k := 0) (N := N_other_side) sc_other_side (fun vs H Q E h => h.1) (fun cdv A outer s H vs Q E hr h => ⟨t_other_side c, by
  exact (pss_cons (ps_if (pt_cmpR (o_eq (hu64 hr)) (pv 0) pe_str (nomark _)) (pss_one (ps_ret pe_str)) pss_nil)
  (pss_one (ps_ret pe_str))), p_other_side T h⟩), g, F.kp, b⟩
abbrev N_is_beaten : List Str := ["book", "side", "move", "by"]
theorem sc_is_beaten : FnScope N_is_beaten ["book", "side", "move", "by"] (defScope s_is_beaten) := ⟨rfl, rfl, rfl, by decide +kernel, rfl, by decide +kernel, by decide +kernel⟩
def t_is_beaten (c : Cn) : TS :=
  (tSeq (tIfS (tTest (tOp (cEq c.K) (tVar 1) (tC (.str "left"))))
  (tRet (tCall (sp_no_less c) [] E0 (tCons (tVar 0) (tCons (tVar 3) (tCons (tVar 2) tNil)))))
  tNext)
  (tRet (tCall (sp_no_less c) [] E0 (tCons (tVar 0) (tCons (tVar 2) (tCons (tVar 3) tNil))))))
def sp_is_beaten (c : Cn) : Sp := fun vs H Q E => vs.length = 4 ∧ ∃ (b : Addr) (M : Addr → Prop) (gs : List Gm) (ds : List Int) (s : Bool) (m y : Nat), vs = [.ref b, .str (sd s), .int m, .int y] ∧ BookAt c H b M gs ds ∧ m < gs.length ∧ y < gs.length ∧ gs.length ≤ 300 ∧ ∀ (H' : Hp), Keep Nil H H' → Q (.bl (bt gs s m y)) H'
theorem few_pair {n a b : Nat} (ha : a < n) (hb : b < n) (hn : n ≤ 300) : (a + 1) * (b + 1) ≤ 90000 := Nat.mul_le_mul (show a + 1 ≤ 300 by omega) (show b + 1 ≤ 300 by omega)
theorem p_is_beaten {c : Cn} {mg : Str → Option Value} (T : Txt c mg) {vs : List V} {H : Hp} {Q : VK} {E : XK} (h : sp_is_beaten c vs H Q E) : t_is_beaten c { nx := fun _ H' => Q .non H', rt := Q } (start N_is_beaten vs) H := by
  obtain ⟨_, b, M, gs, ds, s, m, y, rfl, B, hm, hy, few, k⟩ := h
  have h1 := sd_ne
  have h2 := sd_eq
  unfold t_is_beaten
  cases s
  · repeat kaf_suf
    refine ⟨rfl, b, M, gs, ds, m, y, rfl, B, hm, hy, by omega, few_pair hm hy few, fun H1 k1 => ?_⟩
    repeat kaf_suf
    exact k H1 k1
  · repeat kaf_suf
    refine ⟨rfl, b, M, gs, ds, y, m, rfl, B, hy, hm, by omega, few_pair hy hm few, fun H1 k1 => ?_⟩
    repeat kaf_suf
    exact k H1 k1
theorem cal_is_beaten {c : Cn} {mg : Str → Option Value} {base : Heap} (T : Txt c mg) : Cal c.P c.w c.K mg base CX0 7 "is_beaten" (sp_is_beaten c) := by
  obtain ⟨f, fd, F, g, b⟩ := T.F_is_beaten
  exact ⟨f, fd, ["book", "side", "move", "by"], F.ok (k := 6) (N := N_is_beaten) sc_is_beaten (fun vs H Q E h => h.1) (fun cdv A outer s H vs Q E hr h => ⟨t_is_beaten c, by
  exact (pss_cons (ps_if (pt_cmpR (o_eq (hu64 hr)) (pv 1) pe_str (nomark _)) (pss_one (ps_ret (e_call (cal_no_less T) hr (by decide) pass0 rfl (pa_cons (pv 0) (pa_cons (pv 3) (pa_cons (pv 2) pa_nil)))))) pss_nil)
  (pss_one (ps_ret (e_call (cal_no_less T) hr (by decide) pass0 rfl (pa_cons (pv 0) (pa_cons (pv 2) (pa_cons (pv 3) pa_nil))))))), p_is_beaten T h⟩), g, F.kp, b⟩
abbrev N_is_answer : List Str := ["book", "side", "g", "a"]
theorem sc_is_answer : FnScope N_is_answer ["book", "side", "g", "a"] (defScope s_is_answer) := ⟨rfl, rfl, rfl, by decide +kernel, rfl, by decide +kernel, by decide +kernel⟩
def t_is_answer (c : Cn) : TS :=
  (tSeq (tIfS (tTest (tOp (cEq c.K) (tVar 1) (tC (.str "left"))))
  (tRet (tCall (sp_no_less c) [] E0 (tCons (tVar 0) (tCons (tVar 2) (tCons (tVar 3) tNil)))))
  tNext)
  (tRet (tCall (sp_no_less c) [] E0 (tCons (tVar 0) (tCons (tVar 3) (tCons (tVar 2) tNil))))))
def sp_is_answer (c : Cn) : Sp := fun vs H Q E => vs.length = 4 ∧ ∃ (b : Addr) (M : Addr → Prop) (gs : List Gm) (ds : List Int) (s : Bool) (g a : Nat), vs = [.ref b, .str (sd s), .int g, .int a] ∧ BookAt c H b M gs ds ∧ g < gs.length ∧ a < gs.length ∧ gs.length ≤ 300 ∧ ∀ (H' : Hp), Keep Nil H H' → Q (.bl (an gs s g a)) H'
theorem p_is_answer {c : Cn} {mg : Str → Option Value} (T : Txt c mg) {vs : List V} {H : Hp} {Q : VK} {E : XK} (h : sp_is_answer c vs H Q E) : t_is_answer c { nx := fun _ H' => Q .non H', rt := Q } (start N_is_answer vs) H := by
  obtain ⟨_, b, M, gs, ds, s, g, a, rfl, B, hg, ha, few, k⟩ := h
  have h1 := sd_ne
  have h2 := sd_eq
  unfold t_is_answer
  cases s
  · repeat kaf_suf
    refine ⟨rfl, b, M, gs, ds, a, g, rfl, B, ha, hg, by omega, few_pair ha hg few, fun H1 k1 => ?_⟩
    repeat kaf_suf
    exact k H1 k1
  · repeat kaf_suf
    refine ⟨rfl, b, M, gs, ds, g, a, rfl, B, hg, ha, by omega, few_pair hg ha few, fun H1 k1 => ?_⟩
    repeat kaf_suf
    exact k H1 k1
theorem cal_is_answer {c : Cn} {mg : Str → Option Value} {base : Heap} (T : Txt c mg) : Cal c.P c.w c.K mg base CX0 7 "is_answer" (sp_is_answer c) := by
  obtain ⟨f, fd, F, g, b⟩ := T.F_is_answer
  exact ⟨f, fd, ["book", "side", "g", "a"], F.ok (k := 6) (N := N_is_answer) sc_is_answer (fun vs H Q E h => h.1) (fun cdv A outer s H vs Q E hr h => ⟨t_is_answer c, by
  exact (pss_cons (ps_if (pt_cmpR (o_eq (hu64 hr)) (pv 1) pe_str (nomark _)) (pss_one (ps_ret (e_call (cal_no_less T) hr (by decide) pass0 rfl (pa_cons (pv 0) (pa_cons (pv 2) (pa_cons (pv 3) pa_nil)))))) pss_nil)
  (pss_one (ps_ret (e_call (cal_no_less T) hr (by decide) pass0 rfl (pa_cons (pv 0) (pa_cons (pv 3) (pa_cons (pv 2) pa_nil))))))), p_is_answer T h⟩), g, F.kp, b⟩
abbrev N_beaten_step : List Str := ["book", "g", "side", "moves", "move", "by"]
theorem sc_beaten_step : FnScope N_beaten_step ["book", "g"] (defScope s_beaten_step) := ⟨rfl, rfl, rfl, by decide +kernel, rfl, by decide +kernel, by decide +kernel⟩
def t_beaten_step (c : Cn) : TS :=
  (tSeq (tFor (iAny c.K (tC (.ref c.k_SIDES))) (gName 2)
  (tSeq (tAsg (tCall (sp_moves_of c) [] E0 (tCons (tVar 0) (tCons (tVar 1) (tCons (tVar 2) tNil)))) (gName 3))
  (tFor (iAny c.K (tVar 3)) (gName 4)
  (tFor (iAny c.K (tVar 3)) (gName 5)
  (tIfS (tAnd (tTest (tOp (cNe c.K) (tVar 5) (tVar 4))) (tTru c.K (tCall (sp_is_beaten c) [] E0 (tCons (tVar 0) (tCons (tVar 2) (tCons (tVar 4) (tCons (tVar 5) tNil)))))))
  (tRet (tTup (tCons (tC (.str "beaten")) (tCons (tVar 2) (tCons (tVar 4) (tCons (tVar 5) tNil))))))
  tNext)))))
  (tRet (tC .non)))
def sp_beaten_step (c : Cn) : Sp := fun vs H Q E => vs.length = 2 ∧ ∃ (b : Addr) (M : Addr → Prop) (gs : List Gm) (ds : List Int) (g : Nat), vs = [.ref b, .int g] ∧ BookAt c H b M gs ds ∧ g < gs.length ∧ gs.length ≤ 300 ∧
  (∀ H', Keep Nil H H' → (∀ s, ∀ m ∈ mvs gs g s, ∀ y ∈ mvs gs g s, y ≠ m → bt gs s m.toNat y.toNat = false) → Q .non H') ∧
  (∀ (H' : Hp) (p : Addr) (s : Bool) (m y : Nat), Keep Nil H H' → H' p = some (.tup [.str "beaten", .str (sd s), .int m, .int y]) → (m : Int) ∈ mvs gs g s → (y : Int) ∈ mvs gs g s → y ≠ m → bt gs s m y = true → Q (.ref p) H')
theorem p_beaten_step {c : Cn} {mg : Str → Option Value} (T : Txt c mg) {vs : List V} {H : Hp} {Q : VK} {E : XK} (h : sp_beaten_step c vs H Q E) : t_beaten_step c { nx := fun _ H' => Q .non H', rt := Q } (start N_beaten_step vs) H := by
  obtain ⟨_, b, M, gs, ds, g, rfl, B, hg, few, kn, ks⟩ := h
  unfold t_beaten_step
  repeat kaf_suf
  refine .inr (.inl ⟨_, rfl, ⟨_, T.t_SIDES.2.1 _⟩, ?_⟩)
  refine for_tup (xs := [true, false].map fun s => V.str (sd s)) (fun i σ H' => ∃ (x2 x3 x4 x5 : Option V), σ = [some (.ref b), some (.int g), x2, x3, x4, x5] ∧ Keep Nil H H' ∧ ∀ s ∈ [true, false].take i, ∀ m ∈ mvs gs g s, ∀ y ∈ mvs gs g s, y ≠ m → bt gs s m.toNat y.toNat = false) ⟨_, _, _, _, rfl, Keep.refl, fun s h => by cases h⟩ ?_ ?_ ?_
  · intro _ _ _ _ _
    exact T.t_SIDES.2.1 _
  · rintro i x σ H1 hi ⟨x2, x3, x4, x5, rfl, k1, done⟩
    rw [List.getElem?_map] at hi
    obtain ⟨s, hs, rfl⟩ := Option.map_eq_some_iff.mp hi
    have tk : [true, false].take (i + 1) = [true, false].take i ++ [s] := by rw [List.take_succ, hs]; rfl
    have B1 := B.same k1
    repeat kaf_suf
    refine ⟨rfl, b, M, gs, ds, g, s, rfl, B1, hg, fun l hl => ?_⟩
    have k2 := k1.new (o := .lst ((mvs gs g s).map V.int)) hl
    have el : (upd H1 l (.lst ((mvs gs g s).map V.int))) l = some (.lst ((mvs gs g s).map V.int)) := upd_same
    generalize upd H1 l (.lst ((mvs gs g s).map V.int)) = H2 at k2 el ⊢
    clear hl k1 B1
    repeat kaf_suf
    refine for_list (xs := (mvs gs g s).map V.int) (fun j σ H' => ∃ (x4 x5 : Option V), σ = [some (.ref b), some (.int g), some (.str (sd s)), some (.ref l), x4, x5] ∧ Keep Nil H H' ∧ H' l = some (.lst ((mvs gs g s).map V.int)) ∧ ∀ m ∈ (mvs gs g s).take j, ∀ y ∈ mvs gs g s, y ≠ m → bt gs s m.toNat y.toNat = false) ⟨_, _, rfl, k2, el, fun m h => by cases h⟩ ?_ ?_ ?_
    · rintro j σ H' _ ⟨_, _, _, _, e, _⟩
      exact SqL.of e
    · rintro j x σ H3 hj ⟨y4, y5, rfl, k3, el3, done3⟩
      rw [List.getElem?_map] at hj
      obtain ⟨m, hm, rfl⟩ := Option.map_eq_some_iff.mp hj
      have mm := List.mem_of_getElem? hm
      obtain ⟨m0, m1, _⟩ := mvs_low B.ok mm
      obtain ⟨mn, rfl⟩ := Int.eq_ofNat_of_zero_le m0
      repeat kaf_suf
      refine for_list (xs := (mvs gs g s).map V.int) (fun j σ H' => ∃ (x5 : Option V), σ = [some (.ref b), some (.int g), some (.str (sd s)), some (.ref l), some (.int mn), x5] ∧ Keep Nil H H' ∧ H' l = some (.lst ((mvs gs g s).map V.int)) ∧ ∀ y ∈ (mvs gs g s).take j, y ≠ (mn : Int) → bt gs s mn y.toNat = false) ⟨_, rfl, k3, el3, fun m h => by cases h⟩ ?_ ?_ ?_
      · rintro j σ H' _ ⟨_, _, _, e, _⟩
        exact SqL.of e
      · rintro j2 x σ H4 hj2 ⟨z5, rfl, k4, el4, done4⟩
        rw [List.getElem?_map] at hj2
        obtain ⟨y, hy, rfl⟩ := Option.map_eq_some_iff.mp hj2
        have ym := List.mem_of_getElem? hy
        obtain ⟨y0, y1, _⟩ := mvs_low B.ok ym
        obtain ⟨yn, rfl⟩ := Int.eq_ofNat_of_zero_le y0
        repeat kaf_suf
        refine r_iteN (fun ne => ?_) (fun e => ?_)
        · repeat kaf_suf
          refine ⟨rfl, b, M, gs, ds, s, mn, yn, rfl, B.same k4, by omega, by omega, few, fun H5 k5 => ?_⟩
          cases hb : bt gs s mn yn with
          | true =>
            repeat kaf_suf
            intro p hp
            exact ks _ p s mn yn ((k4.trans k5).new hp) upd_same mm ym (fun z => ne (by rw [z])) hb
          | false =>
            repeat kaf_suf
            refine ⟨_, rfl, k4.trans k5, k5.get (fun z => z) el4, take_snocP hy done4 fun _ => ?_⟩
            rw [Int.toNat_natCast]
            exact hb
        · repeat kaf_suf
          exact ⟨_, rfl, k4, el4, take_snocP hy done4 fun n => absurd e n⟩
      · rintro σ H4 ⟨z5, rfl, k4, el4, done4⟩
        rw [List.length_map, List.take_length] at done4
        repeat kaf_suf
        exact ⟨_, _, rfl, k4, el4, take_snocP hm done3 fun y hy n => by rw [Int.toNat_natCast]; exact done4 y hy n⟩
    · rintro σ H3 ⟨y4, y5, rfl, k3, el3, done3⟩
      rw [List.length_map, List.take_length] at done3
      repeat kaf_suf
      exact ⟨_, _, _, _, rfl, k3, take_snocP hs done done3⟩
  · rintro σ H1 ⟨x2, x3, x4, x5, rfl, k1, done⟩
    repeat kaf_suf
    exact kn H1 k1 fun s => done s (by cases s <;> decide)
theorem cal_beaten_step {c : Cn} {mg : Str → Option Value} {base : Heap} (T : Txt c mg) : Cal c.P c.w c.K mg base CX0 8 "beaten_step" (sp_beaten_step c) := by
  obtain ⟨f, fd, F, g, b⟩ := T.F_beaten_step
  exact ⟨f, fd, ["book", "g"], F.ok (k := 7) (N := N_beaten_step) sc_beaten_step (fun vs H Q E h => h.1) (fun cdv A outer s H vs Q E hr h => ⟨t_beaten_step c, by
  exact (pss_cons (ps_for PassesOwn.never rfl (pi_any (pe_glob rfl (T.t_SIDES).1 rfl)) (pg_name (i := 2) sc_beaten_step.nd rfl (Or.inl rfl))
  (pss_cons (ps_set (i := 3) sc_beaten_step.nd rfl (Or.inl rfl) (e_call (cal_moves_of T) hr (by decide) pass0 rfl (pa_cons (pv 0) (pa_cons (pv 1) (pa_cons (pv 2) pa_nil)))))
  (pss_one (ps_for PassesOwn.never rfl (pi_any (pv 3)) (pg_name (i := 4) sc_beaten_step.nd rfl (Or.inl rfl))
  (pss_one (ps_for PassesOwn.never rfl (pi_any (pv 3)) (pg_name (i := 5) sc_beaten_step.nd rfl (Or.inl rfl))
  (pss_one (ps_if (PW.pt (pw_and (pt_cmpR (o_ne (hu64 hr)) (pv 5) (pv 4) (nomark _)) (pw_and1 (p_tru (e_call (cal_is_beaten T) hr (by decide) pass0 rfl (pa_cons (pv 0) (pa_cons (pv 2) (pa_cons (pv 4) (pa_cons (pv 5) pa_nil))))))))) (pss_one (ps_ret (pe_tup (pa_cons pe_str (pa_cons (pv 2) (pa_cons (pv 4) (pa_cons (pv 5) pa_nil))))))) pss_nil))))))))
  (pss_one (ps_ret pe_non))), p_beaten_step T h⟩), g, F.kp, b⟩
abbrev N_answered_step : List Str := ["book", "g", "side", "move", "a"]
theorem sc_answered_step : FnScope N_answered_step ["book", "g"] (defScope s_answered_step) := ⟨rfl, rfl, rfl, by decide +kernel, rfl, by decide +kernel, by decide +kernel⟩
def t_answered_step (c : Cn) : TS :=
  (tSeq (tFor (iAny c.K (tC (.ref c.k_SIDES))) (gName 2)
  (tFor (iAny c.K (tCall (sp_moves_of c) [] E0 (tCons (tVar 0) (tCons (tVar 1) (tCons (tVar 2) tNil))))) (gName 3)
  (tFor (iAny c.K (tCall (sp_moves_of c) [] E0 (tCons (tVar 0) (tCons (tVar 3) (tCons (tCall (sp_other_side c) [] E0 (tCons (tVar 2) tNil)) tNil))))) (gName 4)
  (tIfS (tTru c.K (tCall (sp_is_answer c) [] E0 (tCons (tVar 0) (tCons (tVar 2) (tCons (tVar 1) (tCons (tVar 4) tNil))))))
  (tRet (tTup (tCons (tC (.str "answered")) (tCons (tVar 2) (tCons (tVar 3) (tCons (tVar 4) tNil))))))
  tNext))))
  (tRet (tC .non)))
def sp_answered_step (c : Cn) : Sp := fun vs H Q E => vs.length = 2 ∧ ∃ (b : Addr) (M : Addr → Prop) (gs : List Gm) (ds : List Int) (g : Nat), vs = [.ref b, .int g] ∧ BookAt c H b M gs ds ∧ g < gs.length ∧ gs.length ≤ 300 ∧
  (∀ H', Keep Nil H H' → (∀ s, ∀ m ∈ mvs gs g s, ∀ a ∈ mvs gs m.toNat (!s), an gs s g a.toNat = false) → Q .non H') ∧
  (∀ (H' : Hp) (p : Addr) (s : Bool) (m a : Nat), Keep Nil H H' → H' p = some (.tup [.str "answered", .str (sd s), .int m, .int a]) → (m : Int) ∈ mvs gs g s → (a : Int) ∈ mvs gs m (!s) → an gs s g a = true → Q (.ref p) H')
theorem p_answered_step {c : Cn} {mg : Str → Option Value} (T : Txt c mg) {vs : List V} {H : Hp} {Q : VK} {E : XK} (h : sp_answered_step c vs H Q E) : t_answered_step c { nx := fun _ H' => Q .non H', rt := Q } (start N_answered_step vs) H := by
  obtain ⟨_, b, M, gs, ds, g, rfl, B, hg, few, kn, ks⟩ := h
  unfold t_answered_step
  repeat kaf_suf
  refine .inr (.inl ⟨_, rfl, ⟨_, T.t_SIDES.2.1 _⟩, ?_⟩)
  refine for_tup (xs := [true, false].map fun s => V.str (sd s)) (fun i σ H' => ∃ (x2 x3 x4 : Option V), σ = [some (.ref b), some (.int g), x2, x3, x4] ∧ Keep Nil H H' ∧ ∀ s ∈ [true, false].take i, ∀ m ∈ mvs gs g s, ∀ a ∈ mvs gs m.toNat (!s), an gs s g a.toNat = false) ⟨_, _, _, rfl, Keep.refl, fun s h => by cases h⟩ ?_ ?_ ?_
  · intro _ _ _ _ _
    exact T.t_SIDES.2.1 _
  · rintro i x σ H1 hi ⟨x2, x3, x4, rfl, k1, done⟩
    rw [List.getElem?_map] at hi
    obtain ⟨s, hs, rfl⟩ := Option.map_eq_some_iff.mp hi
    have tk : [true, false].take (i + 1) = [true, false].take i ++ [s] := by rw [List.take_succ, hs]; rfl
    have B1 := B.same k1
    repeat kaf_suf
    refine ⟨rfl, b, M, gs, ds, g, s, rfl, B1, hg, fun l hl => ?_⟩
    have k2 := k1.new (o := .lst ((mvs gs g s).map V.int)) hl
    have el : (upd H1 l (.lst ((mvs gs g s).map V.int))) l = some (.lst ((mvs gs g s).map V.int)) := upd_same
    generalize upd H1 l (.lst ((mvs gs g s).map V.int)) = H2 at k2 el ⊢
    clear hl k1 B1
    repeat kaf_suf
    refine for_list (xs := (mvs gs g s).map V.int) (fun j σ H' => ∃ (x3 x4 : Option V), σ = [some (.ref b), some (.int g), some (.str (sd s)), x3, x4] ∧ Keep Nil H H' ∧ H' l = some (.lst ((mvs gs g s).map V.int)) ∧ ∀ m ∈ (mvs gs g s).take j, ∀ a ∈ mvs gs m.toNat (!s), an gs s g a.toNat = false) ⟨_, _, rfl, k2, el, fun m h => by cases h⟩ ?_ ?_ ?_
    · rintro j σ H' _ ⟨_, _, _, _, e, _⟩
      exact SqL.of e
    · rintro j x σ H3 hj ⟨y3, y4, rfl, k3, el3, done3⟩
      rw [List.getElem?_map] at hj
      obtain ⟨m, hm, rfl⟩ := Option.map_eq_some_iff.mp hj
      have mm := List.mem_of_getElem? hm
      obtain ⟨m0, m1, _⟩ := mvs_low B.ok mm
      obtain ⟨mn, rfl⟩ := Int.eq_ofNat_of_zero_le m0
      repeat kaf_suf
      refine ⟨rfl, s, rfl, ?_⟩
      repeat kaf_suf
      refine ⟨rfl, b, M, gs, ds, mn, !s, rfl, B.same k3, by omega, fun l2 hl2 => ?_⟩
      have k32 := k3.new (o := .lst ((mvs gs mn (!s)).map V.int)) hl2
      have el2 : (upd H3 l2 (.lst ((mvs gs mn (!s)).map V.int))) l2 = some (.lst ((mvs gs mn (!s)).map V.int)) := upd_same
      have el32 := get_new (u := .lst ((mvs gs mn (!s)).map V.int)) hl2 el3
      generalize upd H3 l2 (.lst ((mvs gs mn (!s)).map V.int)) = H32 at k32 el2 el32 ⊢
      clear hl2 k3 el3
      repeat kaf_suf
      refine for_list (xs := (mvs gs mn (!s)).map V.int) (fun j σ H' => ∃ (x4 : Option V), σ = [some (.ref b), some (.int g), some (.str (sd s)), some (.int mn), x4] ∧ Keep Nil H H' ∧ H' l = some (.lst ((mvs gs g s).map V.int)) ∧ H' l2 = some (.lst ((mvs gs mn (!s)).map V.int)) ∧ ∀ a ∈ (mvs gs mn (!s)).take j, an gs s g a.toNat = false) ⟨_, rfl, k32, el32, el2, fun m h => by cases h⟩ ?_ ?_ ?_
      · rintro j σ H' _ ⟨_, _, _, _, e, _⟩
        exact SqL.of e
      · rintro j2 x σ H4 hj2 ⟨z4, rfl, k4, el4, el24, done4⟩
        rw [List.getElem?_map] at hj2
        obtain ⟨a, ha, rfl⟩ := Option.map_eq_some_iff.mp hj2
        have am := List.mem_of_getElem? ha
        obtain ⟨a0, a1, _⟩ := mvs_low B.ok am
        obtain ⟨an', rfl⟩ := Int.eq_ofNat_of_zero_le a0
        repeat kaf_suf
        refine ⟨rfl, b, M, gs, ds, s, g, an', rfl, B.same k4, by omega, by omega, few, fun H5 k5 => ?_⟩
        cases hb : an gs s g an' with
        | true =>
          repeat kaf_suf
          intro p hp
          exact ks _ p s mn an' ((k4.trans k5).new hp) upd_same mm am hb
        | false =>
          repeat kaf_suf
          refine ⟨_, rfl, k4.trans k5, k5.get (fun z => z) el4, k5.get (fun z => z) el24, take_snocP ha done4 ?_⟩
          rw [Int.toNat_natCast]
          exact hb
      · rintro σ H4 ⟨z4, rfl, k4, el4, el24, done4⟩
        rw [List.length_map, List.take_length] at done4
        repeat kaf_suf
        exact ⟨_, _, rfl, k4, el4, take_snocP hm done3 fun a ha => done4 a (by rw [Int.toNat_natCast] at ha; exact ha)⟩
    · rintro σ H3 ⟨y3, y4, rfl, k3, el3, done3⟩
      rw [List.length_map, List.take_length] at done3
      repeat kaf_suf
      exact ⟨_, _, _, rfl, k3, take_snocP hs done done3⟩
  · rintro σ H1 ⟨x2, x3, x4, rfl, k1, done⟩
    repeat kaf_suf
    exact kn H1 k1 fun s => done s (by cases s <;> decide)
theorem cal_answered_step {c : Cn} {mg : Str → Option Value} {base : Heap} (T : Txt c mg) : Cal c.P c.w c.K mg base CX0 8 "answered_step" (sp_answered_step c) := by
  obtain ⟨f, fd, F, g, b⟩ := T.F_answered_step
  exact ⟨f, fd, ["book", "g"], F.ok (k := 7) (N := N_answered_step) sc_answered_step (fun vs H Q E h => h.1) (fun cdv A outer s H vs Q E hr h => ⟨t_answered_step c, by
  exact (pss_cons (ps_for PassesOwn.never rfl (pi_any (pe_glob rfl (T.t_SIDES).1 rfl)) (pg_name (i := 2) sc_answered_step.nd rfl (Or.inl rfl))
  (pss_one (ps_for PassesOwn.never rfl (pi_any (e_call (cal_moves_of T) hr (by decide) pass0 rfl (pa_cons (pv 0) (pa_cons (pv 1) (pa_cons (pv 2) pa_nil))))) (pg_name (i := 3) sc_answered_step.nd rfl (Or.inl rfl))
  (pss_one (ps_for PassesOwn.never rfl (pi_any (e_call (cal_moves_of T) hr (by decide) pass0 rfl (pa_cons (pv 0) (pa_cons (pv 3) (pa_cons (e_call (cal_other_side T) hr (by decide) pass0 rfl (pa_cons (pv 2) pa_nil)) pa_nil))))) (pg_name (i := 4) sc_answered_step.nd rfl (Or.inl rfl))
  (pss_one (ps_if (p_tru (e_call (cal_is_answer T) hr (by decide) pass0 rfl (pa_cons (pv 0) (pa_cons (pv 2) (pa_cons (pv 1) (pa_cons (pv 4) pa_nil)))))) (pss_one (ps_ret (pe_tup (pa_cons pe_str (pa_cons (pv 2) (pa_cons (pv 3) (pa_cons (pv 4) pa_nil))))))) pss_nil)))))))
  (pss_one (ps_ret pe_non))), p_answered_step T h⟩), g, F.kp, b⟩
abbrev N_positions : List Str := ["book", "g", "found", "waiting", "here", "move"]
theorem sc_positions : FnScope N_positions ["book", "g"] (defScope s_positions) := ⟨rfl, rfl, rfl, by decide +kernel, rfl, by decide +kernel, by decide +kernel⟩
def t_positions (c : Cn) : TS :=
  (tSeq (tAsg (tDisp (((tVar 1), (tC (.bl true))) :: [])) (gName 2))
  (tSeq (tAsg (tLst (tCons (tVar 1) tNil)) (gName 3))
  (tSeq (tWhile (tTru c.K (tVar 3))
  (tSeq (tAsg (tBM0 c.K "list" rPop (tVar 3)) (gName 4))
  (tFor (iAny c.K (tOp (bAdd c.K) (tMeth c.cBook "lefts" (sp_Book_lefts c) [] E0 (tVar 0) (tCons (tVar 4) tNil)) (tMeth c.cBook "rights" (sp_Book_rights c) [] E0 (tVar 0) (tCons (tVar 4) tNil)))) (gName 5)
  (tIfS (tTest (tOp (cNotIn c.P c.w c.K) (tVar 5) (tVar 2)))
  (tSeq (tAsg (tC (.bl true)) (gSub (tVar 2) (tVar 5) (bSet c.P c.w)))
  (tDrop (tBM c.K "list" rAppend (tVar 3) (tCons (tVar 5) tNil))))
  tNext))))
  (tRet (tCB (kSorted c.K c.w) (tCons (tVar 2) tNil))))))
def sp_positions (c : Cn) : Sp := fun vs H Q E => vs.length = 2 ∧ ∃ (b : Addr) (M : Addr → Prop) (gs : List Gm) (ds : List Int) (g : Nat), vs = [.ref b, .int g] ∧ BookAt c H b M gs ds ∧ g < gs.length ∧ gs.length ≤ 40000 ∧
  ∀ (H' : Hp) (p : Addr) (rs : List Int), Keep Nil H H' → H p = none → H' p = some (.lst (rs.map V.int)) → rs.Pairwise (· < ·) → RcS gs g rs → Q (.ref p) H'

theorem p_positions {c : Cn} {mg : Str → Option Value} (T : Txt c mg) {vs : List V} {H : Hp} {Q : VK} {E : XK} (h : sp_positions c vs H Q E) : t_positions c { nx := fun _ H' => Q .non H', rt := Q } (start N_positions vs) H := by
  obtain ⟨_, b, M, gs, ds, g, rfl, B, hg, few, k⟩ := h
  obtain ⟨bx, bm, bn, bd, hb⟩ := B.ins_
  unfold t_positions
  repeat kaf_suf
  refine fun fd hfd => ?_
  simp only [tPairs]
  repeat kaf_suf
  refine ⟨upd_same, [(.inl (g : Int), .bl true)], rfl, by simp, ?_⟩
  repeat kaf_suf
  intro wt hwt
  repeat kaf_suf
  have k0 : Keep Nil H (upd (upd (upd H fd (.dK [])) fd (.dK (mergeK [] [(.inl (g : Int), .bl true)]))) wt (.lst [.int g])) := ((Keep.alloc hfd).setN hfd).new hwt
  have hwt0 : H wt = none := by
    have := none_of_upd (none_of_upd hwt); exact this
  have efd : (upd (upd (upd H fd (.dK [])) fd (.dK (mergeK [] [(.inl (g : Int), .bl true)]))) wt (.lst [.int g])) fd = some (.dK [(.inl (g : Int), .bl true)]) := get_new hwt upd_same
  have ewt : (upd (upd (upd H fd (.dK [])) fd (.dK (mergeK [] [(.inl (g : Int), .bl true)]))) wt (.lst [.int g])) wt = some (.lst [.int g]) := upd_same
  generalize upd (upd (upd H fd (.dK [])) fd (.dK (mergeK [] [(.inl (g : Int), .bl true)]))) wt (.lst [.int g]) = H0 at k0 efd ewt ⊢
  clear hwt
  have nfw : fd ≠ wt := fun z => by rw [z, ewt] at efd; cases efd
  refine ⟨fun m σ H' => ∃ (x4 x5 : Option V) (ks ws : List Int) (kvs : List KX), σ = [some (.ref b), some (.int g), some (.ref fd), some (.ref wt), x4, x5] ∧ kvs.map (·.1) = ks.map Sum.inl ∧ H' fd = some (.dK kvs) ∧ H' wt = some (.lst (ws.map V.int)) ∧ Keep Nil H H' ∧
    (∀ z ∈ ks, Rc gs g z.toNat) ∧ ks.Nodup ∧ (∀ z ∈ ks, 0 ≤ z ∧ z ≤ g) ∧ (g : Int) ∈ ks ∧ (∀ z ∈ ws, z ∈ ks) ∧ (∀ z ∈ ks, z ∉ ws → ∀ s, ∀ m ∈ mvs gs z.toNat s, m ∈ ks) ∧ ws.Nodup ∧ m = 2 * (g + 1 - ks.length) + ws.length, ⟨_, _, _, [(g : Int)], [(g : Int)], _, rfl, rfl, efd, ewt, k0, (fun z hz => by cases List.mem_singleton.mp hz; exact Rc.refl), by simp, (fun z hz => by simp at hz; omega), by simp, (fun z hz => hz), (fun z hz n => absurd hz n), by simp, rfl⟩, ?_⟩
  rintro m σ H1 ⟨x4, x5, ks, ws, kvs, rfl, hks, e1, e2, k1, rcs, nd, lo, gm, wk, cl, wl, rfl⟩
  clear efd ewt k0
  repeat kaf_suf
  refine ⟨_, .inl ⟨ws.map V.int, SqL.of e2, rfl⟩, ?_⟩
  have e1q := e1
  have e2q := e2
  have k1q := k1
  generalize hHH : H1 = H2 at e1q e2q k1q ⊢
  clear e1 e2 k1
  have ksb := keys_bound nd lo
  rcases List.eq_nil_or_concat ws with rfl | ⟨w2, z, rfl⟩
  · refine r_ite_ff ?_
    repeat kaf_suf
    refine v_sortedD e1q hks fun rs p pr ris hp => ?_
    have rn : rs.Nodup := pr.nodup_iff.mpr nd
    exact k _ p rs (k1q.new hp) (keep_none k1q hp) upd_same (lt_of_nodup ris rn) (rc_all B.ok (pr.mem_iff.mpr gm) (fun z hz => (lo z (pr.mem_iff.mp hz)).1) (fun z hz s m hm => pr.mem_iff.mpr (cl z (pr.mem_iff.mp hz) (by simp) s m hm)) fun z hz => rcs z (pr.mem_iff.mp hz))
  · rw [List.concat_eq_append] at e2q wk cl wl ⊢
    rw [if_pos (by simp)]
    rw [List.map_append] at e2q
    have zk : z ∈ ks := wk z (by simp)
    obtain ⟨z0, zg⟩ := lo z zk
    obtain ⟨zn, rfl⟩ := Int.eq_ofNat_of_zero_le z0
    obtain ⟨gmz, hgz⟩ : ∃ x, gs[zn]? = some x := ⟨_, List.getElem?_eq_getElem (by omega)⟩
    have emz : ∀ s, mvs gs zn s = if s then gmz.1 else gmz.2 := fun s => by unfold mvs; rw [hgz]
    refine ⟨fun σ' H' => ∃ (x4 x5 : Option V) (ks' ws' : List Int) (kvs' : List KX), σ' = [some (.ref b), some (.int g), some (.ref fd), some (.ref wt), x4, x5] ∧ kvs'.map (·.1) = ks'.map Sum.inl ∧ H' fd = some (.dK kvs') ∧ H' wt = some (.lst (ws'.map V.int)) ∧ Keep Nil H H' ∧
      (∀ z ∈ ks', Rc gs g z.toNat) ∧ ks'.Nodup ∧ (∀ z ∈ ks', 0 ≤ z ∧ z ≤ g) ∧ (g : Int) ∈ ks' ∧ (∀ z ∈ ws', z ∈ ks') ∧ (∀ z ∈ ks', z ∉ ws' → ∀ s, ∀ m ∈ mvs gs z.toNat s, m ∈ ks') ∧ ws'.Nodup ∧ 2 * (g + 1 - ks'.length) + ws'.length < 2 * (g + 1 - ks.length) + (w2 ++ [(zn : Int)]).length, fun σ' H' ⟨x4, x5, ks', ws', kvs', h1, h2, h3, h4, h5, h6, h7, h8, h9, h10, h11, h13, h12⟩ => ⟨_, h12, x4, x5, ks', ws', kvs', h1, h2, h3, h4, h5, h6, h7, h8, h9, h10, h11, h13, rfl⟩, ?_⟩
    repeat kaf_suf
    refine v_pop e2q ?_
    have e1p : (upd H2 wt (.lst (w2.map V.int))) fd = some (.dK kvs) := get_set nfw e1q
    have e2p : (upd H2 wt (.lst (w2.map V.int))) wt = some (.lst (w2.map V.int)) := upd_same
    have kp : Keep Nil H (upd H2 wt (.lst (w2.map V.int))) := k1q.setN hwt0
    have Bp := B.same kp
    generalize upd H2 wt (.lst (w2.map V.int)) = H3 at e1p e2p kp Bp ⊢
    clear e1q e2q k1q
    obtain ⟨bx3, bm3, bn3, bd3, hb3⟩ := Bp.ins_
    repeat kaf_suf
    refine ⟨rfl, b, M, gs, ds, zn, gmz, rfl, Bp, hgz, fun r1 hr1 => ?_⟩
    repeat kaf_suf
    refine ⟨rfl, b, M, gs, ds, zn, gmz, rfl, Bp.same (Keep.alloc hr1), hgz, fun r2 hr2 => ?_⟩
    have u1 := B.ok.up gmz (List.mem_of_getElem? hgz)
    have lw := B.ok.low zn gmz hgz
    have n1 := up_len _ 0 zn u1.1 (fun x hx => lw x (List.mem_append_left _ hx)) (by omega)
    have n2 := up_len _ 0 zn u1.2 (fun x hx => lw x (List.mem_append_right _ hx)) (by omega)
    repeat kaf_suf
    intro r3 hr3
    have e3 : (upd (upd (upd H3 r1 (.lst (gmz.1.map V.int))) r2 (.lst (gmz.2.map V.int))) r3 (.lst (gmz.1.map V.int ++ gmz.2.map V.int))) r3 = some (.lst ((gmz.1 ++ gmz.2).map V.int)) := by rw [List.map_append]; exact upd_same
    have k3 : Keep Nil H3 (upd (upd (upd H3 r1 (.lst (gmz.1.map V.int))) r2 (.lst (gmz.2.map V.int))) r3 (.lst (gmz.1.map V.int ++ gmz.2.map V.int))) := ((Keep.alloc hr1).new hr2).new hr3
    have e13 := k3.get (fun z => z) e1p
    have e23 := k3.get (fun z => z) e2p
    have k03 := kp.trans k3
    have nr3 : r3 ≠ wt := ne_new hr3 (get_new hr2 (get_new hr1 e2p))
    have nr3' : r3 ≠ fd := ne_new hr3 (get_new hr2 (get_new hr1 e1p))
    generalize upd (upd (upd H3 r1 (.lst (gmz.1.map V.int))) r2 (.lst (gmz.2.map V.int))) r3 (.lst (gmz.1.map V.int ++ gmz.2.map V.int)) = H4 at e3 e13 e23 k03 ⊢
    clear hr1 hr2 hr3 k3 e1p e2p kp Bp hb3
    repeat kaf_suf
    have hfd0 : H fd = none := hfd
    refine for_list (xs := (gmz.1 ++ gmz.2).map V.int) (fun j σ H' => ∃ (x5 : Option V) (ks' ws' : List Int) (kvs' : List KX), σ = [some (.ref b), some (.int g), some (.ref fd), some (.ref wt), some (.int zn), x5] ∧ kvs'.map (·.1) = ks'.map Sum.inl ∧ H' fd = some (.dK kvs') ∧ H' wt = some (.lst (ws'.map V.int)) ∧ Keep Nil H H' ∧ H' r3 = some (.lst ((gmz.1 ++ gmz.2).map V.int)) ∧
      (∀ z ∈ ks', Rc gs g z.toNat) ∧ ks'.Nodup ∧ (∀ z ∈ ks', 0 ≤ z ∧ z ≤ g) ∧ (∀ z ∈ ks, z ∈ ks') ∧ (∀ z ∈ ws', z ∈ ks') ∧ (∀ z ∈ w2, z ∈ ws') ∧ (∀ z ∈ ks', z ∉ ks → z ∈ ws') ∧ (∀ m ∈ (gmz.1 ++ gmz.2).take j, m ∈ ks') ∧ ws'.Nodup ∧ ws'.length + ks.length = w2.length + ks'.length) ⟨_, ks, w2, kvs, rfl, hks, e13, e23, k03, e3, rcs, nd, lo, (fun z hz => hz), (fun z hz => wk z (by simp [hz])), (fun z hz => hz), (fun z hz n => absurd hz n), (fun m hm => by simp at hm), (List.nodup_append.mp wl).1, rfl⟩ ?_ ?_ ?_
    · rintro j σ H' _ ⟨_, _, _, _, _, _, _, _, _, h, _⟩; exact SqL.of h
    · rintro j x σ H5 hj ⟨x5, ks', ws', kvs', rfl, hks', f1, f2, kk, f3, rcs', nd', lo', sub, wk', w2s, new', tk, wl', eq'⟩
      rw [List.getElem?_map] at hj
      obtain ⟨mm, hm, rfl⟩ := Option.map_eq_some_iff.mp hj
      have hmm := List.mem_of_getElem? hm
      obtain ⟨m0, m1⟩ := lw mm hmm
      have tk1 : (gmz.1 ++ gmz.2).take (j + 1) = (gmz.1 ++ gmz.2).take j ++ [mm] := by rw [List.take_succ, hm]; rfl
      have kb := keys_bound nd' lo'
      have rcm : Rc gs g mm.toNat := by
        have r0 := rcs _ zk
        rw [Int.toNat_natCast] at r0
        rcases List.mem_append.mp hmm with h | h
        · exact r0.step (s := true) (by rw [emz]; exact h)
        · exact r0.step (s := false) (by rw [emz]; exact h)
      have wkl := nodup_le ws' ks' wl' wk'
      repeat kaf_suf
      refine v_ninK f1 ?_
      rw [keysM hks']
      refine r_kB (r_iteN (fun hn => ?_) (fun hn => ?_))
      · have wl2 : ws'.length ≤ 90000 := by omega
        repeat kaf_suf
        have lk : kvs'.length = ks'.length := by have := congrArg List.length hks'; rw [List.length_map, List.length_map] at this; exact this
        refine v_setK f1 (few1 (by omega)) ?_
        have f1' : (upd H5 fd (.dK (putK kvs' (.inl mm) (.bl true)))) fd = some (.dK (putK kvs' (.inl mm) (.bl true))) := upd_same
        have f2' : (upd H5 fd (.dK (putK kvs' (.inl mm) (.bl true)))) wt = some (.lst (ws'.map V.int)) := get_set nfw.symm f2
        have f3' : (upd H5 fd (.dK (putK kvs' (.inl mm) (.bl true)))) r3 = some (.lst ((gmz.1 ++ gmz.2).map V.int)) := get_set nr3' f3
        have nn : valV kvs' (.inl mm) = none := by
          have := keysM hks' mm
          rw [decide_eq_false hn] at this
          cases e : valV kvs' (.inl mm) with
          | none => rfl
          | some v => rw [e] at this; cases this
        have kk' : Keep Nil H (upd H5 fd (.dK (putK kvs' (.inl mm) (.bl true)))) := kk.setN hfd0
        generalize hX : upd H5 fd (.dK (putK kvs' (.inl mm) (.bl true))) = H6 at f1' f2' f3' kk' ⊢
        repeat kaf_suf
        refine ⟨_, ks' ++ [mm], ws' ++ [mm], putK kvs' (.inl mm) (.bl true), rfl, by rw [putK_new nn, List.map_append, List.map_append, hks']; rfl, get_set nfw f1', by rw [List.map_append]; exact upd_same, kk'.setN hwt0, get_set nr3 f3', (fun z hz => (List.mem_append.mp hz).elim (rcs' z) fun h => by cases List.mem_singleton.mp h; exact rcm), ?_, ?_, (fun z hz => List.mem_append_left _ (sub z hz)), ?_, (fun z hz => List.mem_append_left _ (w2s z hz)), ?_, ?_, ?_, by rw [List.length_append, List.length_append]; simp only [List.length_singleton]; omega⟩
        · rw [List.nodup_append]
          refine ⟨nd', by simp, fun x hx y hy => ?_⟩
          cases List.mem_singleton.mp hy
          exact fun e => hn (e ▸ hx)
        · intro z hz
          rcases List.mem_append.mp hz with h | h
          · exact lo' z h
          · cases List.mem_singleton.mp h; omega
        · intro z hz
          rcases List.mem_append.mp hz with h | h
          · exact List.mem_append_left _ (wk' z h)
          · exact List.mem_append_right _ h
        · intro z hz hn'
          rcases List.mem_append.mp hz with h | h
          · exact List.mem_append_left _ (new' z h hn')
          · exact List.mem_append_right _ h
        · intro m hm'
          rw [tk1] at hm'
          rcases List.mem_append.mp hm' with h | h
          · exact List.mem_append_left _ (tk m h)
          · exact List.mem_append_right _ h
        · rw [List.nodup_append]
          refine ⟨wl', by simp, fun x hx y hy => ?_⟩
          cases List.mem_singleton.mp hy
          exact fun e => hn (e ▸ wk' x hx)
      · repeat kaf_suf
        refine ⟨_, ks', ws', kvs', rfl, hks', f1, f2, kk, f3, rcs', nd', lo', sub, wk', w2s, new', fun m hm' => ?_, wl', eq'⟩
        rw [tk1] at hm'
        rcases List.mem_append.mp hm' with h | h
        · exact tk m h
        · cases List.mem_singleton.mp h; exact hn
    · rintro σ H5 ⟨x5, ks', ws', kvs', rfl, hks', f1, f2, kk, f3, rcs', nd', lo', sub, wk', w2s, new', tk, wl', eq'⟩
      rw [List.length_map, List.take_length] at tk
      repeat kaf_suf
      refine ⟨_, _, ks', ws', kvs', rfl, hks', f1, f2, kk, rcs', nd', lo', sub _ gm, wk', fun y hy hn s m hm => ?_, wl', ?_⟩
      · by_cases e : y = (zn : Int)
        · subst e
          rw [Int.toNat_natCast, emz] at hm
          refine tk m ?_
          cases s
          · exact List.mem_append_right _ hm
          · exact List.mem_append_left _ hm
        · by_cases hy' : y ∈ ks
          · refine sub m (cl y hy' (fun z => ?_) s m hm)
            rcases List.mem_append.mp z with h | h
            · exact hn (w2s y h)
            · exact e (List.mem_singleton.mp h)
          · exact absurd (new' y hy hy') hn
      · have kb := keys_bound nd' lo'
        rw [List.length_append]
        simp only [List.length_singleton]
        have := nodup_le ks ks' nd sub
        omega
theorem cal_positions {c : Cn} {mg : Str → Option Value} {base : Heap} (T : Txt c mg) : Cal c.P c.w c.K mg base CX0 4 "positions" (sp_positions c) := by
  obtain ⟨f, fd, F, g, b⟩ := T.F_positions
  exact ⟨f, fd, ["book", "g"], F.ok (k := 3) (N := N_positions) sc_positions (fun vs H Q E h => h.1) (fun cdv A outer s H vs Q E hr h => ⟨t_positions c, by
  exact (pss_cons (ps_set (i := 2) sc_positions.nd rfl (Or.inl rfl) (pe_disp (pps_cons (pv 1) pe_bl pps_nil) rfl rfl (by simp) (by decide)))
  (pss_cons (ps_set (i := 3) sc_positions.nd rfl (Or.inl rfl) (pe_lst (pa_cons (pv 1) pa_nil)))
  (pss_cons (ps_while PassesOwn.never (p_tru (pv 3))
  (pss_cons (ps_set (i := 4) sc_positions.nd rfl (Or.inl rfl) (pe_bm0 PySem.F.plainAttrs_list PySem.F.slot_list_pop PySem.F.type_list_pop mt_pop (pv 3)))
  (pss_one (ps_for PassesOwn.never rfl (pi_any (pe_op o_add (e_meth (met_Book_lefts T) hr (by decide) pass0 (pv 0) (pa_cons (pv 4) pa_nil)) (e_meth (met_Book_rights T) hr (by decide) pass0 (pv 0) (pa_cons (pv 4) pa_nil)))) (pg_name (i := 5) sc_positions.nd rfl (Or.inl rfl))
  (pss_one (ps_if (pt_cmpR (o_notin (hu65 hr)) (pv 5) (pv 2) (by rfl)) (pss_cons (ps_asg pe_bl (pg_sub (pv 2) (pv 5) (s_set (hu64 hr))))
  (pss_one (ps_expr (pe_bm PySem.F.plainAttrs_list PySem.F.slot_list_append PySem.F.type_list_append mt_append (pv 3) (pa_cons (pv 5) pa_nil))))) pss_nil))))))
  (pss_one (ps_ret (pe_callB (k_sorted rfl) (by rfl) T.n_sorted (by decide +kernel) (pa_cons (pv 2) pa_nil))))))), p_positions T h⟩), g, F.kp, b⟩
/-- a plain game -/
def PlainP (gs : List Gm) (g : Nat) : Prop := ∀ h, Rc gs g h → ∀ s, ∀ m ∈ mvs gs h s, (∀ y ∈ mvs gs h s, y ≠ m → bt gs s m.toNat y.toNat = false) ∧ ∀ a ∈ mvs gs m.toNat (!s), an gs s h a.toNat = false
abbrev N_is_plain : List Str := ["book", "g", "here"]
theorem sc_is_plain : FnScope N_is_plain ["book", "g"] (defScope s_is_plain) := ⟨rfl, rfl, rfl, by decide +kernel, rfl, by decide +kernel, by decide +kernel⟩
def t_is_plain (c : Cn) : TS :=
  (tSeq (tDrop (tMeth c.cBook "depth" (sp_Book_depth c) [] E0 (tVar 0) (tCons (tVar 1) tNil)))
  (tSeq (tFor (iAny c.K (tCall (sp_positions c) [] E0 (tCons (tVar 0) (tCons (tVar 1) tNil)))) (gName 2)
  (tIfS (tOr (tTest (tOp cIsNot (tCall (sp_beaten_step c) [] E0 (tCons (tVar 0) (tCons (tVar 2) tNil))) (tC .non))) (tTest (tOp cIsNot (tCall (sp_answered_step c) [] E0 (tCons (tVar 0) (tCons (tVar 2) tNil))) (tC .non))))
  (tRet (tC (.bl false)))
  tNext))
  (tRet (tC (.bl true)))))
def sp_is_plain (c : Cn) : Sp := fun vs H Q E => vs.length = 2 ∧ ∃ (b : Addr) (M : Addr → Prop) (gs : List Gm) (ds : List Int) (g : Nat), vs = [.ref b, .int g] ∧ BookAt c H b M gs ds ∧ g < gs.length ∧ gs.length ≤ 300 ∧
  ∀ (H' : Hp) (bb : Bool), Keep Nil H H' → (bb = true ↔ PlainP gs g) → Q (.bl bb) H'
theorem p_is_plain {c : Cn} {mg : Str → Option Value} (T : Txt c mg) {vs : List V} {H : Hp} {Q : VK} {E : XK} (h : sp_is_plain c vs H Q E) : t_is_plain c { nx := fun _ H' => Q .non H', rt := Q } (start N_is_plain vs) H := by
  obtain ⟨_, b, M, gs, ds, g, rfl, B, hg, few, k⟩ := h
  obtain ⟨dg, hdg⟩ : ∃ v, ds[g]? = some v := ⟨_, List.getElem?_eq_getElem (by have := B.dok.len; omega)⟩
  obtain ⟨bx, bm, bn, bd, hb⟩ := B.ins_
  unfold t_is_plain
  repeat kaf_suf
  refine ⟨rfl, b, M, gs, ds, g, dg, rfl, B, hdg, ?_⟩
  repeat kaf_suf
  refine ⟨rfl, b, M, gs, ds, g, rfl, B, hg, by omega, fun H1 p rs k1 hp ep up rc => ?_⟩
  repeat kaf_suf
  refine for_list (xs := rs.map V.int) (fun i σ H' => ∃ (x2 : Option V), σ = [some (.ref b), some (.int g), x2] ∧ Keep Nil H H' ∧ H' p = some (.lst (rs.map V.int)) ∧ ∀ z ∈ rs.take i, ∀ s, ∀ m ∈ mvs gs z.toNat s, (∀ y ∈ mvs gs z.toNat s, y ≠ m → bt gs s m.toNat y.toNat = false) ∧ ∀ a ∈ mvs gs m.toNat (!s), an gs s z.toNat a.toNat = false) ⟨_, rfl, k1, ep, fun s h => by cases h⟩ ?_ ?_ ?_
  · rintro i σ H' _ ⟨_, _, _, e, _⟩
    exact SqL.of e
  · rintro i x σ H2 hi ⟨x2, rfl, k2, ep2, done⟩
    rw [List.getElem?_map] at hi
    obtain ⟨z, hz, rfl⟩ := Option.map_eq_some_iff.mp hi
    obtain ⟨z0, rz⟩ := (rc z).mp (List.mem_of_getElem? hz)
    obtain ⟨zn, rfl⟩ := Int.eq_ofNat_of_zero_le z0
    rw [Int.toNat_natCast] at rz
    have zg := rz.le B.ok
    repeat kaf_suf
    refine ⟨rfl, b, M, gs, ds, zn, rfl, B.same k2, by omega, few, fun H3 k3 nb => ?_, fun H3 q s m y k3 eq hm hy ne hbt => ?_⟩
    · repeat kaf_suf
      refine ⟨rfl, b, M, gs, ds, zn, rfl, B.same (k2.trans k3), by omega, few, fun H4 k4 na => ?_, fun H4 q s m a k4 eq hm ha han => ?_⟩
      · repeat kaf_suf
        exact ⟨_, rfl, (k2.trans k3).trans k4, (k3.trans k4).get (fun z => z) ep2, take_snocP hz done fun s m hm => by rw [Int.toNat_natCast] at hm ⊢; exact ⟨nb s m hm, na s m hm⟩⟩
      · repeat kaf_suf
        refine r_iteNT' (fun z => by cases z) ?_
        repeat kaf_suf
        refine k H4 false ((k2.trans k3).trans k4) ⟨fun z => (by cases z), fun pl => ?_⟩
        have := (pl zn rz s m hm).2 a (by rw [Int.toNat_natCast]; exact ha)
        rw [Int.toNat_natCast, han] at this
        cases this
    · repeat kaf_suf
      refine r_iteNT' (fun z => by cases z) ?_
      repeat kaf_suf
      refine k H3 false (k2.trans k3) ⟨fun z => (by cases z), fun pl => ?_⟩
      have := (pl zn rz s m hm).1 y hy (fun z => ne (Int.ofNat.inj z))
      rw [Int.toNat_natCast, Int.toNat_natCast, hbt] at this
      cases this
  · rintro σ H2 ⟨x2, rfl, k2, ep2, done⟩
    rw [List.length_map, List.take_length] at done
    repeat kaf_suf
    exact k H2 true k2 ⟨fun _ h rh s m hm => done h ((rc h).mpr ⟨by omega, by rw [Int.toNat_natCast]; exact rh⟩) s m (by rw [Int.toNat_natCast]; exact hm), fun _ => rfl⟩
theorem cal_is_plain {c : Cn} {mg : Str → Option Value} {base : Heap} (T : Txt c mg) : Cal c.P c.w c.K mg base CX0 10 "is_plain" (sp_is_plain c) := by
  obtain ⟨f, fd, F, g, b⟩ := T.F_is_plain
  exact ⟨f, fd, ["book", "g"], F.ok (k := 9) (N := N_is_plain) sc_is_plain (fun vs H Q E h => h.1) (fun cdv A outer s H vs Q E hr h => ⟨t_is_plain c, by
  exact (pss_cons (ps_expr (e_meth (met_Book_depth T) hr (by decide) pass0 (pv 0) (pa_cons (pv 1) pa_nil)))
  (pss_cons (ps_for PassesOwn.never rfl (pi_any (e_call (cal_positions T) hr (by decide) pass0 rfl (pa_cons (pv 0) (pa_cons (pv 1) pa_nil)))) (pg_name (i := 2) sc_is_plain.nd rfl (Or.inl rfl))
  (pss_one (ps_if (PW.pt (pw_or (pt_cmpR o_isnot (e_call (cal_beaten_step T) hr (by decide) pass0 rfl (pa_cons (pv 0) (pa_cons (pv 2) pa_nil))) pe_non (nomark _)) (pw_or1 (pt_cmpR o_isnot (e_call (cal_answered_step T) hr (by decide) pass0 rfl (pa_cons (pv 0) (pa_cons (pv 2) pa_nil))) pe_non (nomark _))))) (pss_one (ps_ret pe_bl)) pss_nil)))
  (pss_one (ps_ret pe_bl)))), p_is_plain T h⟩), g, F.kp, b⟩

/-! games out of the cells -/
abbrev N_law_cell : List Str := ["script", "k"]
theorem sc_law_cell : FnScope N_law_cell ["script", "k"] (defScope s_law_cell) := ⟨rfl, rfl, rfl, by decide +kernel, rfl, by decide +kernel, by decide +kernel⟩
def t_law_cell (c : Cn) : TS :=
  (tSeq (tIfS (tTest (tOp (cLt c.K) (tVar 1) (tCB (kLen c.K) (tCons (tVar 0) tNil))))
  (tRet (tOp (bIx c.P c.w c.K) (tVar 0) (tVar 1)))
  tNext)
  (tRet (tOp (bAdd c.K) (tOp (bAdd c.K) (tOp bMul (tOp bMul (tC (.int 37)) (tVar 1)) (tVar 1)) (tOp bMul (tC (.int 19)) (tVar 1))) (tC (.int 5)))))
def sp_law_cell (c : Cn) : Sp := fun vs H Q E => vs.length = 2 ∧ ∃ (a : Addr) (ns : List Int) (k : Nat), vs = [.ref a, .int k] ∧ SqL c.K H a (ns.map V.int) ∧ ns.length ≤ 63 ∧ k ≤ 100 ∧ ∀ z : Int, Q (.int z) H
theorem p_law_cell {c : Cn} {mg : Str → Option Value} (T : Txt c mg) {vs : List V} {H : Hp} {Q : VK} {E : XK} (h : sp_law_cell c vs H Q E) : t_law_cell c { nx := fun _ H' => Q .non H', rt := Q } (start N_law_cell vs) H := by
  obtain ⟨_, a, ns, i, rfl, hs, few, i9, k⟩ := h
  unfold t_law_cell
  repeat kaf_suf
  refine r_ite (fun p => ?_) (fun p => ?_)
  · rw [List.length_map] at p
    obtain ⟨z, hz⟩ : ∃ z, ns[i]? = some z := ⟨_, List.getElem?_eq_getElem (by omega)⟩
    have hx : atI (ns.map V.int) (i : Int) = some (.int z) := atI_get (n := i) (by rw [List.getElem?_map, hz]; rfl) rfl
    repeat kaf_suf
    exact k _
  · repeat kaf_suf
    exact k _
theorem cal_law_cell {c : Cn} {mg : Str → Option Value} {base : Heap} (T : Txt c mg) : Cal c.P c.w c.K mg base CX0 1 "_law_cell" (sp_law_cell c) := by
  obtain ⟨f, fd, F, g, b⟩ := T.F_law_cell
  exact ⟨f, fd, ["script", "k"], F.ok (k := 0) (N := N_law_cell) sc_law_cell (fun vs H Q E h => h.1) (fun cdv A outer s H vs Q E hr h => ⟨t_law_cell c, by
  exact (pss_cons (ps_if (pt_cmpR (o_lt (hu64 hr)) (pv 1) (pe_callB k_len (by rfl) T.n_len (by decide +kernel) (pa_cons (pv 0) pa_nil)) (nomark _)) (pss_one (ps_ret (pe_ix (x_ix (hu64 hr)) (pv 0) (pv 1) (fun _ _ => rfl)))) pss_nil)
  (pss_one (ps_ret (pe_op o_add (pe_op o_add (pe_op o_mul (pe_op o_mul pe_int (pv 1)) (pv 1)) (pe_op o_mul pe_int (pv 1))) pe_int)))), p_law_cell T h⟩), g, F.kp, b⟩
abbrev N_law_mixed : List Str := ["cell", "k", "number"]
theorem sc_law_mixed : FnScope N_law_mixed ["cell", "k"] (defScope s_law_mixed) := ⟨rfl, rfl, rfl, by decide +kernel, rfl, by decide +kernel, by decide +kernel⟩
def t_law_mixed (c : Cn) : TS :=
  (tSeq (tAsg (tOp bMod (tOp (bAdd c.K) (tOp (bAdd c.K) (tOp (bAdd c.K) (tOp bMul (tVar 0) (tC (.int 48271))) (tOp bMul (tOp bMul (tC (.int 7919)) (tVar 1)) (tVar 1))) (tOp bMul (tC (.int 104729)) (tVar 1))) (tC (.int 11))) (tC (.int 2147483647))) (gName 2))
  (tSeq (tAsg (tOp bMod (tOp bMul (tVar 2) (tVar 2)) (tC (.int 2147483629))) (gName 2))
  (tRet (tOp (bAdd c.K) (tOp bMul (tVar 2) (tC (.int 16811))) (tOp bMod (tVar 0) (tC (.int 5)))))))
def sp_law_mixed (c : Cn) : Sp := fun vs H Q E => vs.length = 2 ∧ ∃ (z : Int) (k : Nat), vs = [.int z, .int k] ∧ k ≤ 100 ∧ ∀ z : Int, Q (.int z) H
theorem p_law_mixed {c : Cn} {mg : Str → Option Value} (T : Txt c mg) {vs : List V} {H : Hp} {Q : VK} {E : XK} (h : sp_law_mixed c vs H Q E) : t_law_mixed c { nx := fun _ H' => Q .non H', rt := Q } (start N_law_mixed vs) H := by
  obtain ⟨_, z, i, rfl, i9, k⟩ := h
  unfold t_law_mixed
  repeat kaf_suf
  refine v_mulR (by omega) ?_
  repeat kaf_suf
  exact k _
theorem cal_law_mixed {c : Cn} {mg : Str → Option Value} {base : Heap} (T : Txt c mg) : Cal c.P c.w c.K mg base CX0 1 "_law_mixed" (sp_law_mixed c) := by
  obtain ⟨f, fd, F, g, b⟩ := T.F_law_mixed
  exact ⟨f, fd, ["cell", "k"], F.ok (k := 0) (N := N_law_mixed) sc_law_mixed (fun vs H Q E h => h.1) (fun cdv A outer s H vs Q E hr h => ⟨t_law_mixed c, by
  exact (pss_cons (ps_set (i := 2) sc_law_mixed.nd rfl (Or.inl rfl) (pe_op o_mod (pe_op o_add (pe_op o_add (pe_op o_add (pe_op o_mul (pv 0) pe_int) (pe_op o_mul (pe_op o_mul pe_int (pv 1)) (pv 1))) (pe_op o_mul pe_int (pv 1))) pe_int) pe_int))
  (pss_cons (ps_set (i := 2) sc_law_mixed.nd rfl (Or.inl rfl) (pe_op o_mod (pe_op o_mul (pv 2) (pv 2)) pe_int))
  (pss_one (ps_ret (pe_op o_add (pe_op o_mul (pv 2) pe_int) (pe_op o_mod (pv 0) pe_int)))))), p_law_mixed T h⟩), g, F.kp, b⟩
theorem atI_back {xs : List V} {x : Int} {P : V → Prop} (x0 : 0 ≤ x) (x1 : x < xs.length) (h : ∀ v ∈ xs, P v) : ∃ v, atI xs (-1 - x) = some v ∧ P v := by
  have hl : (xs.length : Int) + (-1 - x) < xs.length := by omega
  obtain ⟨v, hv⟩ : ∃ v, xs[(-1 - x + xs.length).toNat]? = some v := ⟨_, List.getElem?_eq_getElem (by omega)⟩
  refine ⟨v, ?_, h v (List.mem_of_getElem? hv)⟩
  unfold atI ixN
  rw [if_neg (by omega), if_pos (by omega)]
  exact hv
theorem paired_two {α β : Type} {R : α → β → Prop} {xs : List α} {ys : List β} (h : Paired R xs ys) (l : ys.length = 2) : ∃ a b c d, xs = [a, b] ∧ ys = [c, d] ∧ R a c ∧ R b d := by
  cases h with
  | nil => cases l
  | cons r t =>
    cases t with
    | nil => cases l
    | cons r2 t =>
      cases t with
      | nil => exact ⟨_, _, _, _, rfl, rfl, r, r2⟩
      | cons _ _ => simp at l
abbrev N_law_games : List Str := ["book", "script", "start", "many", "games", "k", "cell", "sides", "hand", "moves", "j"]
theorem sc_law_games : FnScope N_law_games ["book", "script", "start", "many"] (defScope s_law_games) := ⟨rfl, rfl, rfl, by decide +kernel, rfl, by decide +kernel, by decide +kernel⟩
def t_law_games (c : Cn) : TS :=
  (tSeq (tAsg (tLst (tCons (tC (.int 0)) tNil)) (gName 4))
  (tSeq (tFor (iRng1 (tCons (tVar 3) tNil)) (gName 5)
  (tSeq (tAsg (tCall (sp_law_cell c) [] E0 (tCons (tVar 1) (tCons (tOp (bAdd c.K) (tVar 2) (tVar 5)) tNil))) (gName 6))
  (C8.tCut (tIfS (tTest (tOp (cEq c.K) (tOp bMod (tCall (sp_law_cell c) [] E0 (tCons (tVar 1) (tCons (tC (.int 0)) tNil))) (tC (.int 2))) (tC (.int 1))))
  (tAsg (tCall (sp_law_mixed c) [] E0 (tCons (tVar 6) (tCons (tVar 5) tNil))) (gName 6))
  tNext)
  (tSeq (tAsg (tLst tNil) (gName 7))
  (tSeq (tFor (iRng1 (tCons (tC (.int 2)) tNil)) (gName 8)
  (tSeq (tAsg (tLst tNil) (gName 9))
  (tSeq (tFor (iRng1 (tCons (tOp bMod (tVar 6) (tC (.int 4))) tNil)) (gName 10)
  (tSeq (tAsg (tOp bDiv (tVar 6) (tC (.int 4))) (gName 6))
  (tSeq (tDrop (tBM c.K "list" rAppend (tVar 9) (tCons (tOp (bIx c.P c.w c.K) (tVar 4) (tOp bSub (tUn (rU fun i => .int (-i)) (tC (.int 1))) (tOp bMod (tVar 6) (tCB (kMin c.K) (tCons (tCB (kLen c.K) (tCons (tVar 4) tNil)) (tCons (tC (.int 7)) tNil)))))) tNil)))
  (tAsg (tOp bDiv (tVar 6) (tC (.int 7))) (gName 6)))))
  (tSeq (tAsg (tOp bDiv (tVar 6) (tC (.int 4))) (gName 6))
  (tDrop (tBM c.K "list" rAppend (tVar 7) (tCons (tVar 9) tNil)))))))
  (tDrop (tBM c.K "list" rAppend (tVar 4) (tCons (tMeth c.cBook "game" (sp_Book_game c) [] E0 (tVar 0) (tCons (tOp (bIx c.P c.w c.K) (tVar 7) (tC (.int 0))) (tCons (tOp (bIx c.P c.w c.K) (tVar 7) (tC (.int 1))) tNil))) tNil))))))))
  (tRet (tVar 4))))
def sp_law_games (c : Cn) : Sp := fun vs H Q E => vs.length = 4 ∧ ∃ (b a : Addr) (M : Addr → Prop) (gs : List Gm) (ds : List Int) (ns : List Int) (st many : Nat), vs = [.ref b, .ref a, .int st, .int many] ∧ BookAt c H b M gs ds ∧ SqL c.K H a (ns.map V.int) ∧ ns.length ≤ 63 ∧ st + many ≤ 50 ∧ gs.length ≤ 200 ∧ (∀ x, M x → H x = none ∨ SqL c.K H a (ns.map V.int)) ∧ (∀ H', Keep M H H' → SqL c.K H' a (ns.map V.int)) ∧
  ∀ (H' : Hp) (f : List Gm) (e : List Int) (l : Addr) (zs : List Int), Keep M H H' → BookAt c H' b M (gs ++ f) (ds ++ e) → H l = none → ¬ M l → H' l = some (.lst (zs.map V.int)) → (∀ z ∈ zs, 0 ≤ z ∧ z < (gs ++ f).length) → f.length ≤ many → zs.length ≤ many + 1 → Q (.ref l) H'
theorem p_law_games {c : Cn} {mg : Str → Option Value} (T : Txt c mg) {vs : List V} {H : Hp} {Q : VK} {E : XK} (h : sp_law_games c vs H Q E) : t_law_games c { nx := fun _ H' => Q .non H', rt := Q } (start N_law_games vs) H := by
  obtain ⟨_, b, a, M, gs, ds, ns, st, many, rfl, B, hs, few, stm, gl, _, sq, k⟩ := h
  unfold t_law_games
  repeat kaf_suf
  intro l hl
  have kl := Keep.alloc (M := M) (o := .lst [.int 0]) hl
  have B0 := B.same (Keep.alloc (o := .lst [.int 0]) hl)
  have nl := B.new hl
  repeat kaf_suf
  refine for_range (lo := 0) (n := (many : Int).toNat) (fun i σ H' => ∃ (x5 x6 x7 x8 x9 x10 : Option V) (f : List Gm) (e : List Int) (zs : List Int), σ = [some (.ref b), some (.ref a), some (.int st), some (.int many), some (.ref l), x5, x6, x7, x8, x9, x10] ∧ Keep M H H' ∧ BookAt c H' b M (gs ++ f) (ds ++ e) ∧ H' l = some (.lst (zs.map V.int)) ∧ (∀ z ∈ zs, 0 ≤ z ∧ z < (gs ++ f).length) ∧ f.length ≤ i ∧ zs.length = i + 1) ⟨_, _, _, _, _, _, [], [], [0], rfl, kl, by rw [List.append_nil, List.append_nil]; exact B0, upd_same, (fun z hz => by cases List.mem_singleton.mp hz; rw [List.append_nil]; have := B.pos; omega), Nat.le_refl _, rfl⟩ ?_ ?_
  rotate_left
  · rintro σ H' ⟨x5, x6, x7, x8, x9, x10, f, e, zs, rfl, k1, B1, el, zr, fl, zl⟩
    repeat kaf_suf
    exact k H' f e l zs k1 B1 hl nl el zr (by omega) (by omega)
  clear kl B0
  rintro i σ H1 hi ⟨x5, x6, x7, x8, x9, x10, f, e, zs, rfl, k1, B1, el, zr, fl, zl⟩
  have hi' : i < many := by omega
  repeat kaf_suf
  refine ⟨rfl, a, ns, st + i, by rw [Int.natCast_add, Int.zero_add], sq H1 k1, few, by omega, fun z => ?_⟩
  repeat kaf_suf
  refine ⟨fun σ H' => H' = H1 ∧ ∃ z : Int, σ = [some (.ref b), some (.ref a), some (.int st), some (.int many), some (.ref l), some (.int (0 + (i : Int))), some (.int z), x7, x8, x9, x10], ?_, ?_⟩
  · repeat kaf_suf
    refine ⟨rfl, a, ns, 0, rfl, sq H1 k1, few, by omega, fun w => ?_⟩
    repeat kaf_suf
    refine r_ite (fun p => ?_) (fun p => ?_)
    · repeat kaf_suf
      refine ⟨rfl, z, i, by rw [Int.zero_add], by omega, fun w => ?_⟩
      repeat kaf_suf
      exact ⟨rfl, _, rfl⟩
    · repeat kaf_suf
      exact ⟨rfl, _, rfl⟩
  rintro σ H1' ⟨rfl, z, rfl⟩
  repeat kaf_suf
  intro s hs'
  have ks := Keep.alloc (M := Nil) (o := .lst []) hs'
  have sl : s ≠ l := ne_new hs' el
  have nMs := B1.new hs'
  have B2 := B1.same ks
  have el2 := ks.get (fun z => z) el
  have es : (upd H1' s (.lst [])) s = some (.lst []) := upd_same
  have ms : (0 : Int) ≤ 0 := Int.le_refl _
  have k2 := k1.trans ks.weak
  have s0 : H s = none := keep_noneM k1 nMs hs'
  generalize upd H1' s (.lst []) = H2 at B2 el2 es k2 ⊢
  clear ks hs' el B1 k1
  repeat kaf_suf
  refine for_range (lo := 0) (n := (2 : Int).toNat) (fun j σ H' => ∃ (z : Int) (x8 x9 x10 : Option V) (ls : List Addr) (ms : List (List Int)), σ = [some (.ref b), some (.ref a), some (.int st), some (.int many), some (.ref l), some (.int (0 + (i : Int))), some (.int z), some (.ref s), x8, x9, x10] ∧ Keep (fun y => y = s) H2 H' ∧ H' s = some (.lst (ls.map V.ref)) ∧ Paired (fun q m => H' q = some (.lst (m.map V.int)) ∧ ¬ M q ∧ q ≠ s ∧ q ≠ l ∧ m.length ≤ 3 ∧ ∀ z ∈ m, 0 ≤ z ∧ z < ((gs ++ f).length : Int)) ls ms ∧ ms.length = j) ⟨_, _, _, _, [], [], rfl, Keep.refl, es, .nil, rfl⟩ ?_ ?_
  · rintro j σ H3 hj ⟨z, x8, x9, x10, ls, ms, rfl, k3, es3, pm, ml⟩
    have hj2 : j < 2 := hj
    have B3 : BookAt c H3 b M (gs ++ f) (ds ++ e) := B2.keep k3 (fun x h => by cases h; exact ⟨_, es⟩) fun x h z => nMs (z ▸ h)
    have el3 := k3.get (Ne.symm sl) el2
    repeat kaf_suf
    intro m hm
    have km := Keep.alloc (M := Nil) (o := .lst []) hm
    have nMm := B3.new hm
    have ms' : m ≠ s := ne_new hm es3
    have m2 : H2 m = none := keep_noneM k3 (fun z => ms' z) hm
    have ml' : m ≠ l := ne_new hm el3
    have em : (upd H3 m (.lst [])) m = some (.lst []) := upd_same
    have el4 := km.get (fun z => z) el3
    have es4 := km.get (fun z => z) es3
    have pm4 : Paired (fun q m' => (upd H3 m (.lst [])) q = some (.lst (m'.map V.int)) ∧ q ≠ m ∧ ¬ M q ∧ q ≠ s ∧ q ≠ l ∧ m'.length ≤ 3 ∧ ∀ z ∈ m', 0 ≤ z ∧ z < ((gs ++ f).length : Int)) ls ms := paired_keep pm fun q m' h => ⟨km.get (fun z => z) h.1, ne_old hm h.1, h.2⟩
    have k4 := k3.trans km.weak
    generalize upd H3 m (.lst []) = H4 at em el4 es4 pm4 k4 ⊢
    clear km hm el3 es3 pm k3 B3
    repeat kaf_suf
    have z4 : 0 ≤ z % 4 ∧ z % 4 < 4 := ⟨Int.emod_nonneg _ (by decide), Int.emod_lt_of_pos _ (by decide)⟩
    generalize z % 4 = z4' at z4 ⊢
    repeat kaf_suf
    refine for_range (lo := 0) (n := z4'.toNat) (fun i2 σ H' => ∃ (z : Int) (x10 : Option V) (ws : List Int), σ = [some (.ref b), some (.ref a), some (.int st), some (.int many), some (.ref l), some (.int (0 + (i : Int))), some (.int z), some (.ref s), some (.int (0 + (j : Int))), some (.ref m), x10] ∧ Keep (fun y => y = m) H4 H' ∧ H' m = some (.lst (ws.map V.int)) ∧ ws.length = i2 ∧ ∀ z ∈ ws, 0 ≤ z ∧ z < ((gs ++ f).length : Int)) ⟨_, _, [], rfl, Keep.refl, em, rfl, fun z h => by cases h⟩ ?_ ?_
    · rintro i2 σ H5 hi2 ⟨z, x10, ws, rfl, k5, em5, wl, wr⟩
      have el5 := k5.get ml'.symm el4
      repeat kaf_suf
      have mn : (if (7 : Int) < ((zs.map V.int).length : Int) then (7 : Int) else ((zs.map V.int).length : Int)) ≤ ((zs.map V.int).length : Int) ∧ 0 < (if (7 : Int) < ((zs.map V.int).length : Int) then (7 : Int) else ((zs.map V.int).length : Int)) := by rw [List.length_map]; split <;> omega
      generalize (if (7 : Int) < ((zs.map V.int).length : Int) then (7 : Int) else ((zs.map V.int).length : Int)) = mn' at mn ⊢
      obtain ⟨mn1, mn0⟩ := mn
      repeat kaf_suf
      have q0 := Int.emod_nonneg (z / 4) (show mn' ≠ 0 by omega)
      have q1 := Int.emod_lt_of_pos (z / 4) mn0
      generalize z / 4 % mn' = w at q0 q1 ⊢
      obtain ⟨v, hv, y, rfl, yr⟩ := atI_back (xs := zs.map V.int) (P := fun v => ∃ y : Int, v = .int y ∧ 0 ≤ y ∧ y < ((gs ++ f).length : Int)) q0 (by omega) fun v hv => by
        obtain ⟨y, hy, rfl⟩ := List.mem_map.mp hv
        exact ⟨y, rfl, zr y hy⟩
      repeat kaf_suf
      refine ⟨_, _, ws ++ [y], rfl, k5.set rfl, by rw [List.map_append]; exact upd_same, by rw [List.length_append, wl]; rfl, fun x hx => ?_⟩
      rcases List.mem_append.mp hx with hx | hx
      · exact wr x hx
      · cases List.mem_singleton.mp hx; exact yr
    · rintro σ H5 ⟨z, x10, ws, rfl, k5, em5, wl, wr⟩
      have es5 := k5.get ms'.symm es4
      have pl := Paired.length pm4
      repeat kaf_suf
      have k6 : Keep (fun y => y = s) H2 (upd H5 s (.lst (ls.map V.ref ++ [V.ref m]))) := by
        refine Keep.set (fun a o n h => ?_) rfl
        have h4 := k4 a o n h
        exact k5 a o (fun z => by
          have z : a = m := z
          rw [z, m2] at h; cases h) h4
      refine ⟨_, _, _, _, ls ++ [m], ms ++ [ws], rfl, k6, by rw [List.map_append]; exact upd_same, Paired.snoc (paired_keep pm4 fun q m' h => ⟨get_set h.2.2.2.1 (k5.get h.2.1 h.1), h.2.2⟩) ⟨get_set ms' em5, nMm, ms', ml', by omega, wr⟩, by rw [List.length_append, ml]; rfl⟩
  · rintro σ H3 ⟨z, x8, x9, x10, ls, ms, rfl, k3, es3, pm, ml⟩
    have B3 : BookAt c H3 b M (gs ++ f) (ds ++ e) := B2.keep k3 (fun x h => by cases h; exact ⟨_, es⟩) fun x h z => nMs (z ▸ h)
    have el3 := k3.get (Ne.symm sl) el2
    have ml2 : ms.length = 2 := ml
    obtain ⟨q1, q2, m1, m2, rfl, rfl, p1, p2⟩ := paired_two pm ml2
    · obtain ⟨e1, n1, _, _, l1, r1⟩ := p1
      obtain ⟨e2, n2, _, _, l2, r2⟩ := p2
      obtain ⟨f1, ef, fl1, _⟩ := addG_grow (gs := gs ++ f) (k := (canon m1, canon m2))
      have ix := ixG_get (addG_mem (gs ++ f) (canon m1, canon m2))
      have ixl := (List.getElem?_eq_some_iff.mp ix).1
      have es3' : H3 s = some (.lst [V.ref q1, V.ref q2]) := es3
      obtain ⟨bx, bm, bn, bd, hb⟩ := B3.ins_
      repeat kaf_suf
      refine ⟨rfl, b, q1, q2, M, gs ++ f, ds ++ e, m1, m2, rfl, B3, e1, e2, n1, n2, by rw [List.length_append]; omega, by omega, by omega, fun m hm => (List.mem_append.mp hm).elim (r1 m) (r2 m), fun H4 e' k4 B4 => ?_⟩
      have el4 := k4.get nl el3
      rw [ef] at B4 ixl ⊢
      generalize ixG (gs ++ f ++ f1) (canon m1, canon m2) = y at ixl ⊢
      have kk : Keep M H H4 := (show Keep M H H3 from fun a o n h => k3 a o (fun z => by
        have z : a = s := z
        rw [z, s0] at h; cases h) (k2 a o n h)).trans k4
      repeat kaf_suf
      refine ⟨_, _, _, _, _, _, f ++ f1, e ++ e', zs ++ [(y : Int)], rfl, kk.setN hl, ?_, by rw [List.map_append]; exact upd_same, fun x hx => ?_, by rw [List.length_append]; omega, by rw [List.length_append, zl]; rfl⟩
      · rw [← List.append_assoc, ← List.append_assoc]
        exact B4.keep (N := fun x => x = l) (Keep.refl.set rfl) (fun x h => by cases h; exact ⟨_, el4⟩) fun x h z => nl (z ▸ h)
      · rw [← List.append_assoc]
        rcases List.mem_append.mp hx with hx | hx
        · have := zr x hx
          rw [List.length_append]
          omega
        · cases List.mem_singleton.mp hx
          omega
theorem cal_law_games {c : Cn} {mg : Str → Option Value} {base : Heap} (T : Txt c mg) : Cal c.P c.w c.K mg base CX0 4 "_law_games" (sp_law_games c) := by
  obtain ⟨f, fd, F, g, b⟩ := T.F_law_games
  exact ⟨f, fd, ["book", "script", "start", "many"], F.ok (k := 3) (N := N_law_games) sc_law_games (fun vs H Q E h => h.1) (fun cdv A outer s H vs Q E hr h => ⟨t_law_games c, by
  exact (pss_cons (ps_set (i := 4) sc_law_games.nd rfl (Or.inl rfl) (pe_lst (pa_cons pe_int pa_nil)))
  (pss_cons (ps_for PassesOwn.never rfl (pi_range1 rfl T.n_range (pa_cons (pv 3) pa_nil)) (pg_name (i := 5) sc_law_games.nd rfl (Or.inl rfl))
  (pss_cons (ps_set (i := 6) sc_law_games.nd rfl (Or.inl rfl) (e_call (cal_law_cell T) hr (by decide) pass0 rfl (pa_cons (pv 1) (pa_cons (pe_op o_add (pv 2) (pv 5)) pa_nil))))
  (C8.pss_cut (ps_if (pt_cmpR (o_eq (hu64 hr)) (pe_op o_mod (e_call (cal_law_cell T) hr (by decide) pass0 rfl (pa_cons (pv 1) (pa_cons pe_int pa_nil))) pe_int) pe_int (nomark _)) (pss_one (ps_set (i := 6) sc_law_games.nd rfl (Or.inl rfl) (e_call (cal_law_mixed T) hr (by decide) pass0 rfl (pa_cons (pv 6) (pa_cons (pv 5) pa_nil))))) pss_nil)
  (pss_cons (ps_set (i := 7) sc_law_games.nd rfl (Or.inl rfl) (pe_lst pa_nil))
  (pss_cons (ps_for PassesOwn.never rfl (pi_range1 rfl T.n_range (pa_cons pe_int pa_nil)) (pg_name (i := 8) sc_law_games.nd rfl (Or.inl rfl))
  (pss_cons (ps_set (i := 9) sc_law_games.nd rfl (Or.inl rfl) (pe_lst pa_nil))
  (pss_cons (ps_for PassesOwn.never rfl (pi_range1 rfl T.n_range (pa_cons (pe_op o_mod (pv 6) pe_int) pa_nil)) (pg_name (i := 10) sc_law_games.nd rfl (Or.inl rfl))
  (pss_cons (ps_set (i := 6) sc_law_games.nd rfl (Or.inl rfl) (pe_op o_div (pv 6) pe_int))
  (pss_cons (ps_expr (pe_bm PySem.F.plainAttrs_list PySem.F.slot_list_append PySem.F.type_list_append mt_append (pv 9) (pa_cons (pe_ix (x_ix (hu64 hr)) (pv 4) (pe_op o_sub (pe_un un_neg pe_int) (pe_op o_mod (pv 6) (pe_callB (k_min rfl) (by rfl) T.n_min (by decide +kernel) (pa_cons (pe_callB k_len (by rfl) T.n_len (by decide +kernel) (pa_cons (pv 4) pa_nil)) (pa_cons pe_int pa_nil))))) (fun _ _ => rfl)) pa_nil)))
  (pss_one (ps_set (i := 6) sc_law_games.nd rfl (Or.inl rfl) (pe_op o_div (pv 6) pe_int))))))
  (pss_cons (ps_set (i := 6) sc_law_games.nd rfl (Or.inl rfl) (pe_op o_div (pv 6) pe_int))
  (pss_one (ps_expr (pe_bm PySem.F.plainAttrs_list PySem.F.slot_list_append PySem.F.type_list_append mt_append (pv 7) (pa_cons (pv 9) pa_nil))))))))
  (pss_one (ps_expr (pe_bm PySem.F.plainAttrs_list PySem.F.slot_list_append PySem.F.type_list_append mt_append (pv 4) (pa_cons (e_meth (met_Book_game T) hr (by decide) pass0 (pv 0) (pa_cons (pe_ix (x_ix (hu64 hr)) (pv 7) pe_int (fun _ _ => rfl)) (pa_cons (pe_ix (x_ix (hu64 hr)) (pv 7) pe_int (fun _ _ => rfl)) pa_nil))) pa_nil)))))))))
  (pss_one (ps_ret (pv 4))))), p_law_games T h⟩), g, F.kp, b⟩

/-! what a walk remembers: a dict of keys that tell their thing, with its right value -/
structure Memo {α : Type} (key : α → NestedKey) (val : α → V) (dom : List α) (xs : List NX) : Prop where
  nd : (xs.map (·.1)).Nodup
  at_ : ∀ x ∈ xs, ∃ a ∈ dom, x.1 = key a ∧ x.2.2 = val a
theorem Memo.nil {α : Type} {key : α → NestedKey} {val : α → V} {dom : List α} : Memo key val dom [] := ⟨List.nodup_nil, fun _ h => nomatch h⟩
theorem Memo.len {α : Type} {key : α → NestedKey} {val : α → V} {dom : List α} {xs : List NX} (k : Memo key val dom xs) : xs.length ≤ dom.length := by
  have := nodup_le (xs.map (·.1)) (dom.map key) k.nd fun x hx => by
    obtain ⟨y, hy, rfl⟩ := List.mem_map.mp hx
    obtain ⟨a, ha, e, _⟩ := k.at_ y hy
    rw [e]
    exact List.mem_map.mpr ⟨a, ha, rfl⟩
  simpa using this
theorem Memo.get {α : Type} {key : α → NestedKey} {val : α → V} {dom : List α} {xs : List NX} (k : Memo key val dom xs) (inj : ∀ a b, key a = key b → a = b) {a : α} {v : V} (h : nval xs (key a) = some v) : v = val a := by
  obtain ⟨x, hx, e, rfl⟩ := nval_mem h
  obtain ⟨b, _, e', hv⟩ := k.at_ x hx
  obtain rfl := inj _ _ (e.symm.trans e')
  exact hv
theorem Memo.put {α : Type} {key : α → NestedKey} {val : α → V} {dom : List α} {xs : List NX} (k : Memo key val dom xs) {a : α} {p : Addr} (ha : a ∈ dom) : Memo key val dom (nput xs (key a) p (val a)) := by
  unfold nput
  split
  · refine ⟨?_, fun x hx => ?_⟩
    · rw [List.map_map]
      have : (xs.map ((fun x : NX => x.1) ∘ fun x => if x.1 = key a then (x.1, x.2.1, val a) else x)) = xs.map (·.1) := by
        refine List.map_congr_left fun x _ => ?_
        simp only [Function.comp]
        split <;> rfl
      rw [this]; exact k.nd
    · obtain ⟨y, hy, rfl⟩ := List.mem_map.mp hx
      split
      · rename_i e
        exact ⟨a, ha, e, rfl⟩
      · exact k.at_ y hy
  · rename_i h
    have h0 : nval xs (key a) = none := by
      cases e : nval xs (key a) with
      | none => rfl
      | some v => rw [e] at h; simp at h
    refine ⟨?_, fun x hx => ?_⟩
    · rw [List.map_append, List.nodup_append]
      refine ⟨k.nd, by simp, fun x hx y hy => ?_⟩
      obtain ⟨z, hz, rfl⟩ := List.mem_map.mp hx
      simp at hy
      subst hy
      exact nval_none h0 z hz
    · rcases List.mem_append.mp hx with hx | hx
      · exact k.at_ x hx
      · cases List.mem_singleton.mp hx
        exact ⟨a, ha, rfl, rfl⟩
theorem ndSame {P : Program} {w : World} {H H' : Hp} {a : Addr} {xs : List NX} (N : NdAt P w H a xs) (k : Keep Nil H H') : NdAt P w H' a xs :=
  ⟨k _ _ (fun z => z) N.here, fun x hx => ⟨NkV.keeps (fun q ys e => k _ _ (fun z => z) e) _ _ (N.keys x hx).1, (N.keys x hx).2⟩⟩
theorem ndPut {P : Program} {w : World} {H : Hp} {a p : Addr} {xs : List NX} {k : NestedKey} {v : V} (N : NdAt P w H a xs) (kp : NkV H k (.ref p)) (d : k.depth ≤ 8) : NdAt P w (upd H a (NdO P w a (nput xs k p v))) a (nput xs k p v) :=
  ⟨upd_same, nput_keys (fun x hx => ⟨NkV.keeps (fun b ys h => get_set (nd_neT N h) h) _ _ (N.keys x hx).1, (N.keys x hx).2⟩) (NkV.keeps (fun b ys h => get_set (nd_neT N h) h) _ _ kp) d⟩
theorem ndSet {P : Program} {w : World} {H : Hp} {a x : Addr} {xs : List NX} {l m : List V} (N : NdAt P w H a xs) (e : H x = some (.lst l)) : NdAt P w (upd H x (.lst m)) a xs :=
  ⟨get_set (nd_neL N e).symm N.here, fun y hy => ⟨NkV.keeps (fun q ys h => get_set (lt_ne e h) h) _ _ (N.keys y hy).1, (N.keys y hy).2⟩⟩
theorem ndBook {P : Program} {w : World} {c : Cn} {H H' : Hp} {b a : Addr} {M : Addr → Prop} {gs : List Gm} {ds : List Int} {xs : List NX} (B : BookAt c H b M gs ds) (N : NdAt P w H a xs) (k : Keep M H H') (n : ¬ M a) : NdAt P w H' a xs :=
  ⟨k _ _ n N.here, fun x hx => ⟨NkV.keeps (fun q ys e => k _ _ (B.tupN e) e) _ _ (N.keys x hx).1, (N.keys x hx).2⟩⟩
theorem BookAt.nd {c : Cn} {H H' : Hp} {b a : Addr} {M : Addr → Prop} {gs : List Gm} {ds : List Int} {xs : List NX} (B : BookAt c H b M gs ds) (N : NdAt c.P c.w H a xs) (k : Keep (fun x => x = a) H H') (n : ¬ M a) : BookAt c H' b M gs ds :=
  B.keepX (N := fun x => x = a) k (fun z e => by subst e; exact ⟨_, N.here⟩) fun z hz e => n (e ▸ hz)
theorem mvNd {P : Program} {w : World} {W : Addr → Prop} {H H' : Hp} {mv a : Addr} {gs : List Gm} {A : Nat → Prop} {xs : List NX} (m : MvW W H mv gs A) (N : NdAt P w H a xs) (k : Keep (fun x => x = a) H H') : MvW W H' mv gs A :=
  m.keep k fun x e => by
    subst e
    have h := N.here
    unfold NdO at h
    exact ⟨(fun l z => by rw [h] at z; cases z), (fun l z => by rw [h] at z; cases z), (fun l z => by rw [h] at z; cases z)⟩
theorem BookAt.setN {c : Cn} {H : Hp} {b a : Addr} {M : Addr → Prop} {gs : List Gm} {ds : List Int} {l m : List V} (B : BookAt c H b M gs ds) (e : H a = some (.lst l)) (n : ¬ M a) : BookAt c (upd H a (.lst m)) b M gs ds :=
  B.keep (N := fun x => x = a) (Keep.refl.set rfl) (fun z q => ⟨_, q ▸ e⟩) fun z hz q => n (q ▸ hz)

/-! the whole play of two games: the plain law -/
def wy (gs : List Gm) (x y : Nat) (s : Bool) : List (Int × Int) := (mvs gs x s).map (fun m => (m, (y : Int))) ++ (mvs gs y (!s)).map fun m => ((x : Int), m)
theorem wy_low {gs : List Gm} (o : GOk gs) {x y : Nat} {s : Bool} {w : Int × Int} (h : w ∈ wy gs x y s) : 0 ≤ w.1 ∧ 0 ≤ w.2 ∧ w.1.toNat + w.2.toNat < x + y ∧ w.1.toNat ≤ x ∧ w.2.toNat ≤ y := by
  rcases List.mem_append.mp h with h | h
  · obtain ⟨m, hm, rfl⟩ := List.mem_map.mp h
    have := mvs_low o hm
    simp only [Int.toNat_natCast]; omega
  · obtain ⟨m, hm, rfl⟩ := List.mem_map.mp h
    have := mvs_low o hm
    simp only [Int.toNat_natCast]; omega
def lz (gs : List Gm) : Nat → Nat → Nat → Bool → Bool
  | 0, _, _, _ => false
  | n + 1, x, y, s => (wy gs x y s).all fun w => !lz gs n w.1.toNat w.2.toNat (!s)
def lo (gs : List Gm) (x y : Nat) (s : Bool) : Bool := lz gs (x + y + 1) x y s
theorem lz_more {gs : List Gm} (o : GOk gs) : ∀ (n k x y : Nat) (s : Bool), x + y < n → n ≤ k → lz gs k x y s = lz gs n x y s
  | 0, _, _, _, _, h, _ => by omega
  | n + 1, 0, _, _, _, _, h => by omega
  | n + 1, k + 1, x, y, s, h, hk => by
    show (wy gs x y s).all _ = (wy gs x y s).all _
    refine all_eq fun w hw => ?_
    have := wy_low o hw
    rw [lz_more o n k w.1.toNat w.2.toNat (!s) (by omega) (by omega)]
theorem lo_eq {gs : List Gm} (o : GOk gs) (x y : Nat) (s : Bool) : lo gs x y s = (wy gs x y s).all fun w => !lo gs w.1.toNat w.2.toNat (!s) := by
  show (wy gs x y s).all _ = (wy gs x y s).all _
  refine all_eq fun w hw => ?_
  have := wy_low o hw
  unfold lo
  rw [lz_more o (w.1.toNat + w.2.toNat + 1) (x + y) w.1.toNat w.2.toNat (!s) (by omega) (by omega)]
theorem ge_lo {gs : List Gm} (o : GOk gs) : ∀ (n x y : Nat), x + y < n → ge gs x y = lo gs x y false
  | 0, _, _, h => by omega
  | n + 1, x, y, h => by
    have e1 : ∀ r ∈ mvs gs x false, gR gs (ge gs) r.toNat y = !lo gs r.toNat y true := fun r hr => by
      have := mvs_low o hr
      rw [lo_eq o]
      unfold wy gR
      rw [List.all_append, List.all_map, List.all_map, Bool.not_and, List.all_eq_not_any_not, List.all_eq_not_any_not, Bool.not_not, Bool.not_not]
      have q1 : ((mvs gs r.toNat true).any fun l => ge gs l.toNat y) = (mvs gs r.toNat true).any fun x => !((fun w : Int × Int => !lo gs w.1.toNat w.2.toNat (!true)) ∘ fun m => (m, (y : Int))) x := any_eq fun l hl => by
        have := mvs_low o hl
        simp only [Function.comp, Bool.not_not, Int.toNat_natCast]
        exact ge_lo o n l.toNat y (by omega)
      have q2 : ((mvs gs y false).any fun q => ge gs r.toNat q.toNat) = (mvs gs y (!true)).any fun x => !((fun w : Int × Int => !lo gs w.1.toNat w.2.toNat (!true)) ∘ fun m => ((r.toNat : Int), m)) x := any_eq fun l hl => by
        have := mvs_low o hl
        simp only [Function.comp, Bool.not_not, Int.toNat_natCast]
        exact ge_lo o n r.toNat l.toNat (by omega)
      rw [q1, q2]
    have e2 : ∀ p ∈ mvs gs y true, gL gs (ge gs) x p.toNat = !lo gs x p.toNat true := fun p hp => by
      have := mvs_low o hp
      rw [lo_eq o]
      unfold wy gL
      rw [List.all_append, List.all_map, List.all_map, Bool.not_and, List.all_eq_not_any_not, List.all_eq_not_any_not, Bool.not_not, Bool.not_not]
      have q1 : ((mvs gs x true).any fun l => ge gs l.toNat p.toNat) = (mvs gs x true).any fun z => !((fun w : Int × Int => !lo gs w.1.toNat w.2.toNat (!true)) ∘ fun m => (m, (p.toNat : Int))) z := any_eq fun l hl => by
        have := mvs_low o hl
        simp only [Function.comp, Bool.not_not, Int.toNat_natCast]
        exact ge_lo o n l.toNat p.toNat (by omega)
      have q2 : ((mvs gs p.toNat false).any fun q => ge gs x q.toNat) = (mvs gs p.toNat (!true)).any fun z => !((fun w : Int × Int => !lo gs w.1.toNat w.2.toNat (!true)) ∘ fun m => ((x : Int), m)) z := any_eq fun l hl => by
        have := mvs_low o hl
        simp only [Function.comp, Bool.not_not, Int.toNat_natCast]
        exact ge_lo o n x l.toNat (by omega)
      rw [q1, q2]
    rw [ge_eq o, lo_eq o]
    unfold gB wy
    rw [List.all_append, List.all_map, List.all_map, all_eq e1, all_eq e2]
    have f1 : ((mvs gs x false).all fun r => !lo gs r.toNat y true) = (mvs gs x false).all ((fun w : Int × Int => !lo gs w.1.toNat w.2.toNat (!false)) ∘ fun m => (m, (y : Int))) := all_eq fun r _ => by simp [Function.comp]
    have f2 : ((mvs gs y true).all fun p => !lo gs x p.toNat true) = (mvs gs y (!false)).all ((fun w : Int × Int => !lo gs w.1.toNat w.2.toNat (!false)) ∘ fun m => ((x : Int), m)) := all_eq fun r _ => by simp [Function.comp]
    rw [f1, f2]
def k3 (a : Nat × Nat × Bool) : NestedKey := .tup [.num a.1, .num a.2.1, .num (if a.2.2 = true then 0 else 1)]
theorem k3_inj (a b : Nat × Nat × Bool) (h : k3 a = k3 b) : a = b := by
  obtain ⟨x, y, s⟩ := a
  obtain ⟨x', y', s'⟩ := b
  unfold k3 at h
  injection h with h
  injection h with h1 h
  injection h with h2 h
  injection h with h3 _
  injection h1 with h1
  injection h2 with h2
  injection h3 with h3
  obtain rfl : x = x' := by simp only at h1; omega
  obtain rfl : y = y' := by simp only at h2; omega
  have : s = s' := by cases s <;> cases s' <;> first | rfl | exact absurd h3 (by simp)
  rw [this]
theorem k3_depth (a : Nat × Nat × Bool) : (k3 a).depth ≤ 8 := by
  unfold k3
  simp only [NestedKey.depth, NestedKey.depthAll]; omega
theorem k3_nk {H : Hp} {t : Addr} {x y : Nat} {s : Bool} (h : H t = some (.tup [.int x, .int y, .bl (!s)])) : NkV H (k3 (x, y, s)) (.ref t) := by
  unfold k3
  simp only [NkV]
  refine ⟨t, _, rfl, h, ?_⟩
  simp only [NkVs, NkV]
  exact ⟨_, _, rfl, .inl rfl, _, _, rfl, .inl rfl, _, _, rfl, .inr ⟨!s, rfl, by cases s <;> rfl⟩, rfl⟩
def dom3 (n : Nat) : List (Nat × Nat × Bool) := (List.range n).flatMap fun x => (List.range n).flatMap fun y => [(x, y, true), (x, y, false)]
theorem dom3_mem {n x y : Nat} {s : Bool} (hx : x < n) (hy : y < n) : (x, y, s) ∈ dom3 n :=
  List.mem_flatMap.mpr ⟨x, List.mem_range.mpr hx, List.mem_flatMap.mpr ⟨y, List.mem_range.mpr hy, by cases s <;> simp⟩⟩
theorem fm_len {α β : Type} {f : α → List β} {k : Nat} : ∀ {l : List α}, (∀ x ∈ l, (f x).length = k) → (l.flatMap f).length = l.length * k
  | [], _ => by simp
  | x :: r, h => by
    rw [List.flatMap_cons, List.length_append, h x List.mem_cons_self, fm_len fun y hy => h y (List.mem_cons_of_mem _ hy), List.length_cons, Nat.succ_mul, Nat.add_comm]
theorem dom3_len {n : Nat} : (dom3 n).length = n * (n * 2) := by
  unfold dom3
  rw [fm_len (k := n * 2) fun x _ => by rw [fm_len (k := 2) fun y _ => rfl, List.length_range], List.length_range]
def PrAt (H : Hp) (t : Addr) (w : Int × Int) : Prop := H t = some (.tup [.int w.1, .int w.2])
theorem PrAt.keep {H H' : Hp} {N : Addr → Prop} {t : Addr} {w : Int × Int} (h : PrAt H t w) (k : Keep N H H') (n : ∀ x, N x → ∀ l, H x ≠ some (.tup l)) : PrAt H' t w := k _ _ (fun z => n _ z _ h) h
theorem pairedA {α β : Type} {R : α → β → Prop} {xs xs' : List α} {ys ys' : List β} (h : Paired R xs ys) (h' : Paired R xs' ys') : Paired R (xs ++ xs') (ys ++ ys') := by
  induction h with
  | nil => exact h'
  | cons r _ ih => exact .cons r ih
def LM (gs : List Gm) (xs : List NX) : Prop := Memo k3 (fun a => .bl (lo gs a.1 a.2.1 a.2.2)) (dom3 gs.length) xs
/-! the law's rows -/
def RwO (W : Addr → Prop) (H : Hp) (k : Addr) (gm : Gm) : Prop := ∃ a b, H k = some (.lst [.ref a, .ref b]) ∧ H a = some (.lst (gm.1.map V.int)) ∧ H b = some (.lst (gm.2.map V.int)) ∧ ¬ W k ∧ ¬ W a ∧ ¬ W b
theorem RwO.keep {W : Addr → Prop} {H H' : Hp} {k : Addr} {gm : Gm} (r : RwO W H k gm) (q : Keep W H H') : RwO W H' k gm := by
  obtain ⟨a, b, h1, h2, h3, n1, n2, n3⟩ := r
  exact ⟨a, b, q.get n1 h1, q.get n2 h2, q.get n3 h3, n1, n2, n3⟩
theorem RwO.weak {W : Addr → Prop} {H : Hp} {k : Addr} {gm : Gm} (r : RwO W H k gm) : RwO Nil H k gm := by
  obtain ⟨a, b, h1, h2, h3, _⟩ := r
  exact ⟨a, b, h1, h2, h3, id, id, id⟩
theorem RwO.keepL {N : Addr → Prop} {H H' : Hp} {k : Addr} {gm : Gm} (r : RwO Nil H k gm) (q : Keep N H H') (n : ∀ x, N x → ∀ l, H x ≠ some (.lst l)) : RwO Nil H' k gm := by
  obtain ⟨a, b, h1, h2, h3, n1, n2, n3⟩ := r
  exact ⟨a, b, q.get (fun z => n _ z _ h1) h1, q.get (fun z => n _ z _ h2) h2, q.get (fun z => n _ z _ h3) h3, n1, n2, n3⟩
def RwAt (H : Hp) (R : Addr) (gs : List Gm) : Prop := ∃ ks : List Addr, H R = some (.lst (ks.map V.ref)) ∧ Paired (RwO Nil H) ks gs
theorem RwAt.keep {N : Addr → Prop} {H H' : Hp} {R : Addr} {gs : List Gm} (r : RwAt H R gs) (q : Keep N H H') (n : ∀ x, N x → ∀ l, H x ≠ some (.lst l)) : RwAt H' R gs := by
  obtain ⟨ks, h, p⟩ := r
  exact ⟨ks, q.get (fun z => n _ z _ h) h, paired_keep p fun _ _ h => h.keepL q n⟩
theorem RwAt.same {H H' : Hp} {R : Addr} {gs : List Gm} (r : RwAt H R gs) (q : Keep Nil H H') : RwAt H' R gs := r.keep q fun _ z => z.elim
theorem RwAt.nd {P : Program} {w : World} {H H' : Hp} {R kn : Addr} {gs : List Gm} {xs : List NX} (r : RwAt H R gs) (N : NdAt P w H kn xs) (q : Keep (fun x => x = kn) H H') : RwAt H' R gs := r.keep q fun x e l h => by
  subst e
  have h' := N.here
  unfold NdO at h'
  rw [h'] at h; cases h
def sx (s : Bool) : Int := if s = true then 0 else 1
theorem RwAt.row {H : Hp} {R : Addr} {gs : List Gm} (r : RwAt H R gs) {g : Nat} (hg : g < gs.length) (s : Bool) : ∃ (ks : List V) (t q : Addr) (ab : List V), H R = some (.lst ks) ∧ atI ks (g : Int) = some (.ref t) ∧ H t = some (.lst ab) ∧ atI ab (sx s) = some (.ref q) ∧ H q = some (.lst ((mvs gs g s).map V.int)) := by
  obtain ⟨ks, h, p⟩ := r
  obtain ⟨gm, e⟩ : ∃ x, gs[g]? = some x := ⟨_, List.getElem?_eq_getElem hg⟩
  obtain ⟨t, ht, a, b, h1, h2, h3, _⟩ := paired_get p e
  have em := mvs_gm e s
  cases s
  · exact ⟨_, t, b, _, h, atI_get (n := g) (by rw [List.getElem?_map, ht]; rfl) rfl, h1, rfl, by rw [em]; exact h3⟩
  · exact ⟨_, t, a, _, h, atI_get (n := g) (by rw [List.getElem?_map, ht]; rfl) rfl, h1, rfl, by rw [em]; exact h2⟩
abbrev N_law_rows : List Str := ["book", "g"]
theorem sc_law_rows : FnScope N_law_rows ["book"] (defScope s_law_rows) := ⟨rfl, rfl, rfl, by decide +kernel, rfl, by decide +kernel, by decide +kernel⟩
def t_law_rows (c : Cn) : TS :=
  (tRet (tLc (iRng1 (tCons (tMeth c.cBook "many" (sp_Book_many c) [] E0 (tVar 0) tNil) tNil)) (gName 1) tYes (tLst (tCons (tMeth c.cBook "lefts" (sp_Book_lefts c) [] E0 (tVar 0) (tCons (tVar 1) tNil)) (tCons (tMeth c.cBook "rights" (sp_Book_rights c) [] E0 (tVar 0) (tCons (tVar 1) tNil)) tNil))) [1]))
def sp_law_rows (c : Cn) : Sp := fun vs H Q E => vs.length = 1 ∧ ∃ (b : Addr) (M : Addr → Prop) (gs : List Gm) (ds : List Int), vs = [.ref b] ∧ BookAt c H b M gs ds ∧ gs.length ≤ 50000 ∧ ∀ (H' : Hp) (R : Addr), Keep Nil H H' → RwAt H' R gs → Q (.ref R) H'
theorem p_law_rows {c : Cn} {mg : Str → Option Value} (T : Txt c mg) {vs : List V} {H : Hp} {Q : VK} {E : XK} (h : sp_law_rows c vs H Q E) : t_law_rows c { nx := fun _ H' => Q .non H', rt := Q } (start N_law_rows vs) H := by
  obtain ⟨_, b, M, gs, ds, rfl, B, few, k⟩ := h
  obtain ⟨bx, bm, bn, bd, hb⟩ := B.ins_
  unfold t_law_rows
  repeat kaf_suf
  refine ⟨rfl, b, M, gs, ds, rfl, B, ?_⟩
  repeat kaf_suf
  intro D hD
  refine lc_range (lo := 0) (n := (gs.length : Int).toNat) (fun j H' => ∃ ks : List Addr, H' D = some (.lst (ks.map V.ref)) ∧ Paired (RwO (fun x => x = D) H') ks (gs.take j) ∧ Keep Nil H H') ⟨[], upd_same, .nil, Keep.alloc hD⟩ ?_ ?_
  · rintro j H1 hj ⟨ks, eD, pk, k1⟩
    have hj' : j < gs.length := by omega
    obtain ⟨gm, egm⟩ : ∃ x, gs[j]? = some x := ⟨_, List.getElem?_eq_getElem hj'⟩
    have B1 := B.same k1
    obtain ⟨bx1, bm1, bn1, bd1, hb1⟩ := B1.ins_
    have kl := Paired.length pk
    rw [List.length_take] at kl
    repeat kaf_suf
    refine ⟨rfl, ?_⟩
    repeat kaf_suf
    refine ⟨rfl, b, M, gs, ds, j, gm, by rw [Int.zero_add], B1, egm, fun r1 hr1 => ?_⟩
    have q1 := Keep.alloc (M := Nil) (o := .lst (gm.1.map V.int)) hr1
    repeat kaf_suf
    refine ⟨rfl, b, M, gs, ds, j, gm, by rw [Int.zero_add], B1.same q1, egm, fun r2 hr2 => ?_⟩
    have q2 := q1.new (o := .lst (gm.2.map V.int)) hr2
    repeat kaf_suf
    intro r3 hr3
    have q3 := q2.new (o := .lst [.ref r1, .ref r2]) hr3
    have e1 := get_new (u := .lst [.ref r1, .ref r2]) hr3 (get_new (u := .lst (gm.2.map V.int)) hr2 (upd_same (H := H1) (a := r1) (o := .lst (gm.1.map V.int))))
    have e2 := get_new (u := .lst [.ref r1, .ref r2]) hr3 (upd_same (H := upd H1 r1 (.lst (gm.1.map V.int))) (a := r2) (o := .lst (gm.2.map V.int)))
    have e3 : (upd (upd (upd H1 r1 (.lst (gm.1.map V.int))) r2 (.lst (gm.2.map V.int))) r3 (.lst [.ref r1, .ref r2])) r3 = some (.lst [.ref r1, .ref r2]) := upd_same
    have n1 : r1 ≠ D := ne_new hr1 eD
    have n2 : r2 ≠ D := ne_new hr2 (q1.get (fun z => z) eD)
    have n3 : r3 ≠ D := ne_new hr3 (q2.get (fun z => z) eD)
    have eD3 := q3.get (fun z => z) eD
    have pk3 : Paired (RwO (fun x => x = D) (upd (upd (upd H1 r1 (.lst (gm.1.map V.int))) r2 (.lst (gm.2.map V.int))) r3 (.lst [.ref r1, .ref r2]))) ks (gs.take j) := paired_keep pk fun _ _ h => h.keep q3.weak
    generalize upd (upd (upd H1 r1 (.lst (gm.1.map V.int))) r2 (.lst (gm.2.map V.int))) r3 (.lst [.ref r1, .ref r2]) = H3 at q3 e1 e2 e3 eD3 pk3 ⊢
    refine ⟨_, eD3, few1 (by rw [List.length_map]; omega), ks ++ [r3], by rw [List.map_append]; exact upd_same, ?_, (k1.trans q3).setN hD⟩
    rw [List.take_succ, egm]
    exact Paired.snoc (paired_keep pk3 fun _ _ h => h.keep (Keep.refl.set rfl)) ⟨r1, r2, get_set n3 e3, get_set n1 e1, get_set n2 e2, n3, n1, n2⟩
  · rintro H1 ⟨ks, eD, pk, k1⟩
    rw [List.take_of_length_le (by omega)] at pk
    exact k H1 D k1 ⟨ks, eD, paired_keep pk fun _ _ h => h.weak⟩
theorem cal_law_rows {c : Cn} {mg : Str → Option Value} {base : Heap} (T : Txt c mg) : Cal c.P c.w c.K mg base CX0 3 "_law_rows" (sp_law_rows c) := by
  obtain ⟨f, fd, F, g, b⟩ := T.F_law_rows
  exact ⟨f, fd, ["book"], F.ok (k := 2) (N := N_law_rows) sc_law_rows (fun vs H Q E h => h.1) (fun cdv A outer s H vs Q E hr h => ⟨t_law_rows c, by
  exact (pss_one (ps_ret (pe_lc (own := [("g", 1)]) rfl sc_law_rows.nd (pi_range1 rfl T.n_range (pa_cons (e_meth0 (met_Book_many T) hr (by decide) pass0 (pv 0)) pa_nil)) (blkOk_by (own := [("g", 1)]) (N := N_law_rows) (sc := defScope s_law_rows) (by decide +kernel)) (fun _ _ _ _ _ => (pg_name (i := 1) sc_law_rows.nd rfl (Or.inl rfl))) (fun _ _ _ _ _ => pts_nil) (fun _ _ _ _ _ => (pe_lst (pa_cons (e_meth (met_Book_lefts T) hr (by decide) pass0 (pv 0) (pa_cons (pv 1) pa_nil)) (pa_cons (e_meth (met_Book_rights T) hr (by decide) pass0 (pv 0) (pa_cons (pv 1) pa_nil)) pa_nil))))))), p_law_rows T h⟩), g, F.kp, b⟩
def sp_law_loses (n : Nat) (c : Cn) : Sp := fun vs H Q E => vs.length = 5 ∧ ∃ (mv kn : Addr) (gs : List Gm) (x y : Nat) (s : Bool) (xs : List NX), vs = [.ref mv, .int x, .int y, .bl (!s), .ref kn] ∧ RwAt H mv gs ∧ GOk gs ∧ gs.length ≤ 20 ∧ x < gs.length ∧ y < gs.length ∧ NdAt c.P c.w H kn xs ∧ LM gs xs ∧ x + y < n ∧
  ∀ (H' : Hp) (xs' : List NX), Keep (fun x => x = kn) H H' → NdAt c.P c.w H' kn xs' → LM gs xs' → Q (.bl (lo gs x y s)) H'
theorem z_law_loses {c : Cn} {vs : List V} {H : Hp} {Q : VK} {E : XK} (h : sp_law_loses 0 c vs H Q E) : False := by
  obtain ⟨_, _, _, _, x, y, _, _, _, _, _, _, _, _, _, _, h, _⟩ := h
  omega
abbrev N_law_loses : List Str := ["rows", "g", "h", "right", "told", "side", "ways", "found", "one", "other", "move"]
theorem sc_law_loses : FnScope N_law_loses ["rows", "g", "h", "right", "told"] (defScope s_law_loses) := ⟨rfl, rfl, rfl, by decide +kernel, rfl, by decide +kernel, by decide +kernel⟩
def t_law_loses (n : Nat) (c : Cn) : TS :=
  (C8.tCut (tIfS (tTest (tOp (cNotIn c.P c.w c.K) (tTup (tCons (tVar 1) (tCons (tVar 2) (tCons (tVar 3) tNil)))) (tVar 4)))
  (tSeq (tAsg (tCB kInt (tCons (tVar 3) tNil)) (gName 5))
  (tSeq (tAsg (tLc (iAny c.K (tOp (bIx c.P c.w c.K) (tOp (bIx c.P c.w c.K) (tVar 0) (tVar 1)) (tVar 5))) (gName 10) tYes (tTup (tCons (tVar 10) (tCons (tVar 2) tNil))) [10]) (gName 6))
  (tSeq (tAsg (tOp (bAdd c.K) (tVar 6) (tLc (iAny c.K (tOp (bIx c.P c.w c.K) (tOp (bIx c.P c.w c.K) (tVar 0) (tVar 2)) (tOp bSub (tC (.int 1)) (tVar 5)))) (gName 10) tYes (tTup (tCons (tVar 1) (tCons (tVar 10) tNil))) [10])) (gName 6))
  (tSeq (tAsg (tC (.bl true)) (gName 7))
  (tSeq (tFor (iAny c.K (tVar 6)) (gSeq c.K 2 (gCons (gName 8) (gCons (gName 9) gNil)))
  (tAsg (tAndV (tVar 7) (tNotV (tCall (sp_law_loses n c) [] E0 (tCons (tVar 0) (tCons (tVar 8) (tCons (tVar 9) (tCons (tNotV (tVar 3)) (tCons (tVar 4) tNil)))))))) (gName 7)))
  (tAsg (tVar 7) (gSub (tVar 4) (tTup (tCons (tVar 1) (tCons (tVar 2) (tCons (tVar 3) tNil)))) (bSet c.P c.w))))))))
  tNext)
  (tRet (tOp (bIx c.P c.w c.K) (tVar 4) (tTup (tCons (tVar 1) (tCons (tVar 2) (tCons (tVar 3) tNil)))))))
theorem p_law_loses {n : Nat} {c : Cn} {mg : Str → Option Value} (T : Txt c mg) {vs : List V} {H : Hp} {Q : VK} {E : XK} (h : sp_law_loses (n + 1) c vs H Q E) : t_law_loses n c { nx := fun _ H' => Q .non H', rt := Q } (start N_law_loses vs) H := by
  obtain ⟨_, mv, kn, gs, x, y, s, xs, rfl, M, go, few, hx, hy, N, ok, xyn, k⟩ := h
  have s01 : ∀ s : Bool, (1 : Int) - sx s = sx (!s) := fun s => by cases s <;> rfl
  have s00 : (if (!s) = true then (1 : Int) else 0) = sx s := by cases s <;> rfl
  have dl : (dom3 gs.length).length ≤ 800 := by
    rw [dom3_len]
    exact Nat.le_trans (Nat.mul_le_mul few (Nat.mul_le_mul_right 2 few)) (by omega)
  unfold t_law_loses
  repeat kaf_suf
  refine ⟨fun σ' H' => ∃ (x5 x6 x7 x8 x9 : Option V) (xs' : List NX), σ' = [some (.ref mv), some (.int x), some (.int y), some (.bl (!s)), some (.ref kn), x5, x6, x7, x8, x9, none] ∧ Keep (fun x => x = kn) H H' ∧ NdAt c.P c.w H' kn xs' ∧ LM gs xs' ∧ nval xs' (k3 (x, y, s)) = some (.bl (lo gs x y s)), ?_, ?_⟩
  · repeat kaf_suf
    intro p hp
    repeat kaf_suf
    have k1 : Keep Nil H (upd H p (.tup [.int x, .int y, .bl (!s)])) := Keep.alloc hp
    have N1 := ndSame N k1
    refine v_ninN N1 (k3_nk upd_same) (k3_depth _) ?_
    cases e : nval xs (k3 (x, y, s)) with
    | some v =>
      refine r_kB (r_ite_nt ?_)
      repeat kaf_suf
      refine ⟨_, _, _, _, _, xs, rfl, k1.weak, N1, ok, ?_⟩
      rw [e, ok.get k3_inj e]
    | none =>
      refine r_kB (r_ite_nf ?_)
      have M1 := M.same k1
      generalize upd H p (.tup [.int x, .int y, .bl (!s)]) = H1 at k1 N1 M1 ⊢
      clear hp
      obtain ⟨ks1, t1, q, ab1, e1, w1, t1', hx3, hq⟩ := M1.row hx s
      obtain ⟨ks2, t2, q2, ab2, e2, w2, t2', hy3, hq2⟩ := M1.row hy (!s)
      obtain rfl : ks1 = ks2 := by rw [e1] at e2; cases e2; rfl
      have mlen : ∀ g s, g < gs.length → (mvs gs g s).length ≤ 20 := fun g s hg => by
        have u : (mvs gs g s).Pairwise (· < ·) := by
          obtain ⟨x, ex⟩ : ∃ x, gs[g]? = some x := ⟨_, List.getElem?_eq_getElem hg⟩
          have up := go.up x (List.mem_of_getElem? ex)
          unfold mvs
          rw [ex]
          cases s
          · exact up.2
          · exact up.1
        have := up_len _ 0 g u (fun x hx => by have := mvs_low go hx; omega) (by omega)
        omega
      have ml1 := mlen x s hx
      have ml2 := mlen y (!s) hy
      repeat kaf_suf
      rw [s00]
      repeat kaf_suf
      intro D hD
      refine lc_list (xs := (mvs gs x s).map V.int) (fun j H' => ∃ ts : List Addr, H' D = some (.lst (ts.map V.ref)) ∧ Paired (PrAt H') ts (((mvs gs x s).map fun m => (m, (y : Int))).take j) ∧ Keep Nil H1 H') ⟨[], upd_same, .nil, Keep.alloc hD⟩ ?_ ?_ ?_
      · rintro j H' _ ⟨_, _, _, kk⟩; exact SqL.of (kk.get (fun z => z) hq)
      · rintro j xx H2 hj ⟨ts, eD, pt, kk⟩
        rw [List.getElem?_map] at hj
        obtain ⟨m, hm, rfl⟩ := Option.map_eq_some_iff.mp hj
        have tl := Paired.length pt
        have hjl := (List.getElem?_eq_some_iff.mp hm).1
        rw [List.length_take, List.length_map] at tl
        repeat kaf_suf
        refine ⟨rfl, ?_⟩
        repeat kaf_suf
        intro r hr
        have kr : Keep Nil H2 (upd H2 r (.tup [.int m, .int y])) := Keep.alloc hr
        refine ⟨_, kr.get (fun z => z) eD, few1 (by rw [List.length_map]; omega), ts ++ [r], by rw [List.map_append]; exact upd_same, ?_, (kk.trans kr).setN hD⟩
        have eD2 := kr.get (fun z => z) eD
        have nD : ∀ z, z = D → ∀ l, (upd H2 r (.tup [.int m, .int y])) z ≠ some (.tup l) := fun z e l h => by rw [e, eD2] at h; cases h
        rw [List.take_succ, List.getElem?_map, hm]
        refine Paired.snoc (paired_keep pt fun t w h => (h.keep kr fun _ z => z.elim).keep (N := fun z => z = D) (Keep.refl.set rfl) nD) ?_
        exact PrAt.keep (N := fun z => z = D) (show PrAt _ r (m, (y : Int)) from upd_same) (Keep.refl.set rfl) nD
      rintro H2 ⟨ts, eD, pt, kk⟩
      rw [List.take_of_length_le (by rw [List.length_map, List.length_map]; exact Nat.le_refl _)] at pt
      have e2' := kk.get (fun z => z) e1
      clear e2
      have t2'' := kk.get (fun z => z) t2'
      have hq2' := kk.get (fun z => z) hq2
      rw [← s01] at hy3
      have tl1 := Paired.length pt
      repeat kaf_suf
      rw [List.length_map] at tl1
      repeat kaf_suf
      intro D2 hD2
      have nDD : D ≠ D2 := ne_old hD2 eD
      have kD2 : Keep Nil H2 (upd H2 D2 (.lst [])) := Keep.alloc hD2
      refine lc_list (xs := (mvs gs y (!s)).map V.int) (fun j H' => ∃ ts : List Addr, H' D2 = some (.lst (ts.map V.ref)) ∧ Paired (PrAt H') ts (((mvs gs y (!s)).map fun m => ((x : Int), m)).take j) ∧ Keep Nil H2 H') ⟨[], upd_same, .nil, kD2⟩ ?_ ?_ ?_
      · rintro j H' _ ⟨_, _, _, k9⟩; exact SqL.of (k9.get (fun z => z) hq2')
      · rintro j xx H3 hj ⟨ts2, eD2, pt2, k9⟩
        rw [List.getElem?_map] at hj
        obtain ⟨m, hm, rfl⟩ := Option.map_eq_some_iff.mp hj
        have tl := Paired.length pt2
        have hjl := (List.getElem?_eq_some_iff.mp hm).1
        rw [List.length_take, List.length_map] at tl
        repeat kaf_suf
        refine ⟨rfl, ?_⟩
        repeat kaf_suf
        intro r hr
        have kr : Keep Nil H3 (upd H3 r (.tup [.int x, .int m])) := Keep.alloc hr
        refine ⟨_, kr.get (fun z => z) eD2, few1 (by rw [List.length_map]; omega), ts2 ++ [r], by rw [List.map_append]; exact upd_same, ?_, (k9.trans kr).setN hD2⟩
        have eD3 := kr.get (fun z => z) eD2
        have nD : ∀ z, z = D2 → ∀ l, (upd H3 r (.tup [.int x, .int m])) z ≠ some (.tup l) := fun z e l h => by rw [e, eD3] at h; cases h
        rw [List.take_succ, List.getElem?_map, hm]
        refine Paired.snoc (paired_keep pt2 fun t w h => (h.keep kr fun _ z => z.elim).keep (N := fun z => z = D2) (Keep.refl.set rfl) nD) ?_
        exact PrAt.keep (N := fun z => z = D2) (show PrAt _ r ((x : Int), m) from upd_same) (Keep.refl.set rfl) nD
      rintro H3 ⟨ts2, eD2, pt2, k9⟩
      rw [List.take_of_length_le (by rw [List.length_map, List.length_map]; exact Nat.le_refl _)] at pt2
      have tl2 := Paired.length pt2
      rw [List.length_map] at tl2
      have eD3 := k9.get (fun z => z) eD
      have pt3 := pairedA (paired_keep pt fun t w h => PrAt.keep h k9 fun _ z => z.elim) pt2
      have k13 := kk.trans k9
      clear e2' t2'' hq2' kD2 pt pt2 kk k9 eD hD2
      repeat kaf_suf
      intro D4 hD4
      have N4 := ndSame (ndSame N1 k13) (Keep.alloc (o := .lst (ts.map V.ref ++ ts2.map V.ref)) hD4)
      have M4 := (M1.same k13).same (Keep.alloc (o := .lst (ts.map V.ref ++ ts2.map V.ref)) hD4)
      have k04 := (k1.trans k13).new (o := .lst (ts.map V.ref ++ ts2.map V.ref)) hD4
      have e4 : (upd H3 D4 (.lst (ts.map V.ref ++ ts2.map V.ref))) D4 = some (.lst ((ts ++ ts2).map V.ref)) := by rw [List.map_append]; exact upd_same
      have pt4 := paired_keep pt3 fun t w h => PrAt.keep h (Keep.alloc (M := Nil) (o := .lst (ts.map V.ref ++ ts2.map V.ref)) hD4) fun _ z => z.elim
      generalize upd H3 D4 (.lst (ts.map V.ref ++ ts2.map V.ref)) = H4 at N4 M4 k04 e4 pt4 ⊢
      clear hD4 pt3 k13 k1 eD2 eD3 N1 M1 e1 w1 t1' w2 t2' hq hq2
      have wl : (ts ++ ts2).length = (wy gs x y s).length := Paired.length pt4
      have D4n := nd_neL N4 e4
      repeat kaf_suf
      refine for_list (xs := (ts ++ ts2).map V.ref) (fun i σ H' => ∃ (x7 x8 : Option V) (xs' : List NX), σ = [some (.ref mv), some (.int x), some (.int y), some (.bl (!s)), some (.ref kn), some (.int (sx s)), some (.ref D4), some (.bl (((wy gs x y s).take i).all fun w => !lo gs w.1.toNat w.2.toNat (!s))), x7, x8, none] ∧ Keep (fun x => x = kn) H4 H' ∧ NdAt c.P c.w H' kn xs' ∧ LM gs xs') ⟨_, _, xs, rfl, Keep.refl, N4, ok⟩ ?_ ?_ ?_
      · rintro i σ H' _ ⟨_, _, _, _, k5, _⟩; exact SqL.of (k5.get D4n e4)
      · rintro i xx σ H5 hi ⟨x7, x8, xs5, rfl, k5, N5, ok5⟩
        have hi' : i < (wy gs x y s).length := by
          have := (List.getElem?_eq_some_iff.mp hi).1
          rw [List.length_map, wl] at this; exact this
        obtain ⟨w, hw⟩ : ∃ w, (wy gs x y s)[i]? = some w := ⟨_, List.getElem?_eq_getElem hi'⟩
        obtain ⟨t, htt, pw⟩ := paired_get pt4 hw
        rw [List.getElem?_map, htt] at hi
        cases hi
        obtain ⟨w1, w2, w3, w4, w5⟩ := wy_low go (List.mem_of_getElem? hw)
        have pw5 : H5 t = some (.tup [.int w.1, .int w.2]) := k5.get (nd_neT N4 pw) pw
        have tk1 : (wy gs x y s).take (i + 1) = (wy gs x y s).take i ++ [w] := by rw [List.take_succ, hw]; rfl
        obtain ⟨wa, wb⟩ := w
        obtain ⟨an, rfl⟩ := Int.eq_ofNat_of_zero_le w1
        obtain ⟨bn, rfl⟩ := Int.eq_ofNat_of_zero_le w2
        simp only [Int.toNat_natCast] at w3 w4 w5
        have al : (((wy gs x y s).take (i + 1)).all fun w => !lo gs w.1.toNat w.2.toNat (!s)) = ((((wy gs x y s).take i).all fun w => !lo gs w.1.toNat w.2.toNat (!s)) && !lo gs an bn (!s)) := by
          rw [tk1, List.all_append, List.all_cons, List.all_nil, Bool.and_true]
          rfl
        repeat kaf_suf
        cases hac : ((wy gs x y s).take i).all fun w => !lo gs w.1.toNat w.2.toNat (!s) with
        | false =>
          rw [hac, Bool.false_and] at al
          repeat kaf_suf
          exact ⟨_, _, xs5, by rw [al]; rfl, k5, N5, ok5⟩
        | true =>
          rw [hac, Bool.true_and] at al
          repeat kaf_suf
          refine ⟨rfl, mv, kn, gs, an, bn, !s, xs5, rfl, M4.nd N4 k5, go, few, by omega, by omega, N5, ok5, by omega, fun H6 xs6 k6 N6 ok6 => ?_⟩
          have k56 := k5.trans k6
          repeat kaf_suf
          exact ⟨_, _, xs6, by rw [al]; rfl, k56, N6, ok6⟩
      · rintro σ H5 ⟨x7, x8, xs5, rfl, k5, N5, ok5⟩
        rw [List.length_map, wl, List.take_length, ← lo_eq go]
        repeat kaf_suf
        intro p3 hp3
        repeat kaf_suf
        have kp3 : Keep Nil H5 (upd H5 p3 (.tup [.int x, .int y, .bl (!s)])) := Keep.alloc hp3
        have N6 := ndSame N5 kp3
        have xl := ok5.len
        refine v_setN' N6 (k3_nk upd_same) (k3_depth _) (few1 (by omega)) ?_
        repeat kaf_suf
        exact ⟨_, _, _, _, _, _, rfl, ((k04.weak.trans k5).trans kp3.weak).set rfl, ndPut N6 (k3_nk upd_same) (k3_depth (x, y, s)), ok5.put (dom3_mem hx hy), nval_nput⟩
  · rintro σ' H' ⟨x5, x6, x7, x8, x9, xs', rfl, k', N', ok', e⟩
    repeat kaf_suf
    intro p hp
    repeat kaf_suf
    have k1 : Keep Nil H' (upd H' p (.tup [.int x, .int y, .bl (!s)])) := Keep.alloc hp
    refine v_ixN (ndSame N' k1) (k3_nk upd_same) (k3_depth _) e ?_
    exact k _ xs' (k'.trans k1.weak) (ndSame N' k1) ok'
theorem cal_law_loses {c : Cn} {mg : Str → Option Value} {base : Heap} (T : Txt c mg) : ∀ n : Nat, Cal c.P c.w c.K mg base CX0 (3 + n) "_law_loses" (sp_law_loses n c)
  | 0 => by
    obtain ⟨f, fd, F, g, b⟩ := T.F_law_loses
    exact ⟨f, fd, ["rows", "g", "h", "right", "told"], F.ok (k := 2) (N := N_law_loses) sc_law_loses (fun vs H Q E h => (z_law_loses h).elim) (fun cdv A outer s H vs Q E hr h => (z_law_loses h).elim), g, F.kp, b⟩
  | n + 1 => by
    obtain ⟨f, fd, F, g, b⟩ := T.F_law_loses
    exact ⟨f, fd, ["rows", "g", "h", "right", "told"], F.ok (k := 3 + n) (N := N_law_loses) sc_law_loses (fun vs H Q E h => h.1) (fun cdv A outer s H vs Q E hr h => ⟨t_law_loses n c, by
  exact (C8.pss_cut (ps_if (pt_cmpR (o_notin (hu65 hr)) (pe_tup (pa_cons (pv 1) (pa_cons (pv 2) (pa_cons (pv 3) pa_nil)))) (pv 4) (by rfl)) (pss_cons (ps_set (i := 5) sc_law_loses.nd rfl (Or.inl rfl) (pe_callTy k_int (by rfl) T.n_int (by decide +kernel) (pa_cons (pv 3) pa_nil)))
  (pss_cons (ps_setLc (i := 6) (own := [("move", 10)]) rfl sc_law_loses.nd rfl rfl (sw_true rfl rfl rfl (by decide +kernel)) (pi_any (pe_ix (x_ix (hu64 hr)) (pe_ix (x_ix (hu64 hr)) (pv 0) (pv 1) (fun _ _ => rfl)) (pv 5) (fun _ _ => rfl))) (blkOk_by (own := [("move", 10)]) (N := N_law_loses) (sc := defScope s_law_loses) (by decide +kernel)) (fun _ _ _ _ _ => (pg_name (i := 10) sc_law_loses.nd rfl (Or.inl rfl))) (fun _ _ _ _ _ => pts_nil) (fun _ _ _ _ _ => (pe_tup (pa_cons (pv 10) (pa_cons (pv 2) pa_nil)))))
  (pss_cons (ps_set (i := 6) sc_law_loses.nd rfl (Or.inl rfl) (pe_op o_add (pv 6) (pe_lc (own := [("move", 10)]) rfl sc_law_loses.nd (pi_any (pe_ix (x_ix (hu64 hr)) (pe_ix (x_ix (hu64 hr)) (pv 0) (pv 2) (fun _ _ => rfl)) (pe_op o_sub pe_int (pv 5)) (fun _ _ => rfl))) (blkOk_by (own := [("move", 10)]) (N := N_law_loses) (sc := defScope s_law_loses) (by decide +kernel)) (fun _ _ _ _ _ => (pg_name (i := 10) sc_law_loses.nd rfl (Or.inl rfl))) (fun _ _ _ _ _ => pts_nil) (fun _ _ _ _ _ => (pe_tup (pa_cons (pv 1) (pa_cons (pv 10) pa_nil)))))))
  (pss_cons (ps_set (i := 7) sc_law_loses.nd rfl (Or.inl rfl) pe_bl)
  (pss_cons (ps_for PassesOwn.never rfl (pi_any (pv 6)) (g_seq rfl (pgs_cons (pg_name (i := 8) sc_law_loses.nd rfl (Or.inl rfl)) (pgs_cons (pg_name (i := 9) sc_law_loses.nd rfl (Or.inl rfl)) pgs_nil)))
  (pss_one (ps_set (i := 7) sc_law_loses.nd rfl (Or.inl rfl) (pe_and (pv 7) (pe_one (pe_not (e_call (cal_law_loses T n) hr (by omega) pass0 rfl (pa_cons (pv 0) (pa_cons (pv 8) (pa_cons (pv 9) (pa_cons (pe_not (pv 3)) (pa_cons (pv 4) pa_nil))))))))))))
  (pss_one (ps_asg (pv 7) (pg_sub (pv 4) (pe_tup (pa_cons (pv 1) (pa_cons (pv 2) (pa_cons (pv 3) pa_nil)))) (s_set (hu64 hr)))))))))) pss_nil)
  (pss_one (ps_ret (pe_ix (x_ix (hu64 hr)) (pv 4) (pe_tup (pa_cons (pv 1) (pa_cons (pv 2) (pa_cons (pv 3) pa_nil)))) (fun _ _ => rfl))))), p_law_loses T h⟩), g, F.kp, b⟩
abbrev N_law_no_less : List Str := ["rows", "g", "h", "told"]
theorem sc_law_no_less : FnScope N_law_no_less ["rows", "g", "h", "told"] (defScope s_law_no_less) := ⟨rfl, rfl, rfl, by decide +kernel, rfl, by decide +kernel, by decide +kernel⟩
def t_law_no_less (c : Cn) : TS :=
  (tRet (tCall (sp_law_loses 60 c) [] E0 (tCons (tVar 0) (tCons (tVar 1) (tCons (tVar 2) (tCons (tC (.bl true)) (tCons (tVar 3) tNil)))))))
def sp_law_no_less (c : Cn) : Sp := fun vs H Q E => vs.length = 4 ∧ ∃ (mv kn : Addr) (gs : List Gm) (x y : Nat) (xs : List NX), vs = [.ref mv, .int x, .int y, .ref kn] ∧ RwAt H mv gs ∧ GOk gs ∧ gs.length ≤ 20 ∧ x < gs.length ∧ y < gs.length ∧ NdAt c.P c.w H kn xs ∧ LM gs xs ∧
  ∀ (H' : Hp) (xs' : List NX), Keep (fun x => x = kn) H H' → NdAt c.P c.w H' kn xs' → LM gs xs' → Q (.bl (ge gs x y)) H'
theorem p_law_no_less {c : Cn} {mg : Str → Option Value} (T : Txt c mg) {vs : List V} {H : Hp} {Q : VK} {E : XK} (h : sp_law_no_less c vs H Q E) : t_law_no_less c { nx := fun _ H' => Q .non H', rt := Q } (start N_law_no_less vs) H := by
  obtain ⟨_, mv, kn, gs, x, y, xs, rfl, M, go, few, hx, hy, N, ok, k⟩ := h
  unfold t_law_no_less
  repeat kaf_suf
  refine ⟨rfl, mv, kn, gs, x, y, false, xs, rfl, M, go, few, hx, hy, N, ok, by omega, fun H' xs' k' N' ok' => ?_⟩
  repeat kaf_suf
  rw [← ge_lo go _ _ _ (Nat.lt_succ_self _)]
  exact k H' xs' k' N' ok'
theorem cal_law_no_less {c : Cn} {mg : Str → Option Value} {base : Heap} (T : Txt c mg) : Cal c.P c.w c.K mg base CX0 64 "_law_no_less" (sp_law_no_less c) := by
  obtain ⟨f, fd, F, g, b⟩ := T.F_law_no_less
  exact ⟨f, fd, ["rows", "g", "h", "told"], F.ok (k := 63) (N := N_law_no_less) sc_law_no_less (fun vs H Q E h => h.1) (fun cdv A outer s H vs Q E hr h => ⟨t_law_no_less c, by
  exact (pss_one (ps_ret (e_call (cal_law_loses T 60) hr (by decide) pass0 rfl (pa_cons (pv 0) (pa_cons (pv 1) (pa_cons (pv 2) (pa_cons pe_bl (pa_cons (pv 3) pa_nil)))))))), p_law_no_less T h⟩), g, F.kp, b⟩

theorem inV_int {z : Int} (os : List Int) : inV (.int z) (os.map V.int) = decide (z ∈ os) := by
  unfold inV
  rw [List.any_map]
  by_cases h : z ∈ os
  · rw [decide_eq_true h]
    exact List.any_eq_true.mpr ⟨z, h, by simp [Function.comp, eqV]⟩
  · rw [decide_eq_false h]
    exact List.any_eq_false.mpr fun y hy => by
      simp only [Function.comp, eqV, beq_iff_eq]
      exact fun e => h (e ▸ hy)
theorem flat_ints : ∀ os : List Int, (os.map V.int).all flatV = true
  | [] => rfl
  | x :: r => by rw [List.map_cons, List.all_cons, flat_ints r]; rfl
theorem v_ninL {P : Program} {w : World} {K : PySem.W.Frag} {H : Hp} {Q : VK} {l : Addr} {os : List Int} {z : Int} (h : H l = some (.lst (os.map V.int))) (q : Q (.bl (!decide (z ∈ os))) H) : cNotIn P w K (.int z) (.ref l) H Q :=
  .inl ⟨l, os.map V.int, rfl, .inl (SqL.of h), rfl, flat_ints os, by rw [if_pos rfl, inV_int]; exact q⟩
theorem RwAt.both {H : Hp} {R : Addr} {gs : List Gm} (r : RwAt H R gs) {g : Nat} (hg : g < gs.length) : ∃ (ks : List V) (t a b : Addr), H R = some (.lst ks) ∧ atI ks (g : Int) = some (.ref t) ∧ H t = some (.lst [.ref a, .ref b]) ∧ H a = some (.lst ((mvs gs g true).map V.int)) ∧ H b = some (.lst ((mvs gs g false).map V.int)) := by
  obtain ⟨ks, h, p⟩ := r
  obtain ⟨gm, e⟩ : ∃ x, gs[g]? = some x := ⟨_, List.getElem?_eq_getElem hg⟩
  obtain ⟨t, ht, a, b, h1, h2, h3, _⟩ := paired_get p e
  exact ⟨_, t, a, b, h, atI_get (n := g) (by rw [List.getElem?_map, ht]; rfl) rfl, h1, by rw [mvs_gm e]; exact h2, by rw [mvs_gm e]; exact h3⟩
abbrev N_law_positions : List Str := ["rows", "g", "found", "at", "move"]
theorem sc_law_positions : FnScope N_law_positions ["rows", "g"] (defScope s_law_positions) := ⟨rfl, rfl, rfl, by decide +kernel, rfl, by decide +kernel, by decide +kernel⟩
def t_law_positions (c : Cn) : TS :=
  (tSeq (tAsg (tLst (tCons (tVar 1) tNil)) (gName 2))
  (tSeq (tAsg (tC (.int 0)) (gName 3))
  (tSeq (tWhile (tTest (tOp (cLt c.K) (tVar 3) (tCB (kLen c.K) (tCons (tVar 2) tNil))))
  (tSeq (tFor (iAny c.K (tOp (bAdd c.K) (tOp (bIx c.P c.w c.K) (tOp (bIx c.P c.w c.K) (tVar 0) (tOp (bIx c.P c.w c.K) (tVar 2) (tVar 3))) (tC (.int 0))) (tOp (bIx c.P c.w c.K) (tOp (bIx c.P c.w c.K) (tVar 0) (tOp (bIx c.P c.w c.K) (tVar 2) (tVar 3))) (tC (.int 1))))) (gName 4)
  (tIfS (tTest (tOp (cNotIn c.P c.w c.K) (tVar 4) (tVar 2)))
  (tDrop (tBM c.K "list" rAppend (tVar 2) (tCons (tVar 4) tNil)))
  tNext))
  (tAsg (tOp (bAdd c.K) (tVar 3) (tC (.int 1))) (gName 3))))
  (tRet (tCB (kSorted c.K c.w) (tCons (tVar 2) tNil))))))
def sp_law_positions (c : Cn) : Sp := fun vs H Q E => vs.length = 2 ∧ ∃ (R : Addr) (gs : List Gm) (g : Nat), vs = [.ref R, .int g] ∧ RwAt H R gs ∧ GOk gs ∧ g < gs.length ∧ gs.length ≤ 300 ∧
  ∀ (H' : Hp) (p : Addr) (rs : List Int), Keep Nil H H' → H' p = some (.lst (rs.map V.int)) → RcS gs g rs → Q (.ref p) H'
theorem p_law_positions {c : Cn} {mg : Str → Option Value} (T : Txt c mg) {vs : List V} {H : Hp} {Q : VK} {E : XK} (h : sp_law_positions c vs H Q E) : t_law_positions c { nx := fun _ H' => Q .non H', rt := Q } (start N_law_positions vs) H := by
  obtain ⟨_, R, gs, g, rfl, M, go, hg, few, k⟩ := h
  unfold t_law_positions
  repeat kaf_suf
  intro fd hfd
  repeat kaf_suf
  have k0 := Keep.alloc (M := Nil) (o := .lst [.int g]) hfd
  refine ⟨fun m σ H' => ∃ (x4 : Option V) (at_ : Nat) (fs : List Int), σ = [some (.ref R), some (.int g), some (.ref fd), some (.int at_), x4] ∧ Keep Nil H H' ∧ H' fd = some (.lst (fs.map V.int)) ∧ fs.Nodup ∧ (∀ z ∈ fs, 0 ≤ z ∧ z ≤ g) ∧ (∀ z ∈ fs, Rc gs g z.toNat) ∧ (g : Int) ∈ fs ∧ (∀ i z, i < at_ → fs[i]? = some z → ∀ s, ∀ m ∈ mvs gs z.toNat s, m ∈ fs) ∧ at_ ≤ fs.length ∧ m = g + 2 - at_, ⟨_, _, 0, [(g : Int)], rfl, k0, upd_same, by simp, (fun z hz => by cases List.mem_singleton.mp hz; omega), (fun z hz => by cases List.mem_singleton.mp hz; exact Rc.refl), List.mem_cons_self, (fun i z h => by omega), Nat.zero_le _, rfl⟩, ?_⟩
  rintro m σ H1 ⟨x4, at_, fs, rfl, k1, e1, nd, lo, rcs, gm, cl, al, rfl⟩
  have fl := keys_bound nd lo
  repeat kaf_suf
  refine r_ite (fun p => ?_) (fun p => ?_)
  · rw [List.length_map] at p
    have p' : at_ < fs.length := by omega
    obtain ⟨z, hz⟩ : ∃ z, fs[at_]? = some z := ⟨_, List.getElem?_eq_getElem p'⟩
    have zm := List.mem_of_getElem? hz
    obtain ⟨z0, zg⟩ := lo z zm
    obtain ⟨zn, rfl⟩ := Int.eq_ofNat_of_zero_le z0
    have hx : atI (fs.map V.int) (at_ : Int) = some (.int zn) := atI_get (n := at_) (by rw [List.getElem?_map, hz]; rfl) rfl
    obtain ⟨ks, t, a, b, eR, et, eab, ea, eb⟩ := (M.same k1).both (g := zn) (by omega)
    have h0 : atI [V.ref a, V.ref b] 0 = some (.ref a) := rfl
    have h1 : atI [V.ref a, V.ref b] 1 = some (.ref b) := rfl
    have ml1 := mvs_len go (g := zn) (s := true) (by omega)
    have ml2 := mvs_len go (g := zn) (s := false) (by omega)
    refine ⟨fun σ' H' => ∃ (x4 : Option V) (fs' : List Int), σ' = [some (.ref R), some (.int g), some (.ref fd), some (.int (at_ + 1)), x4] ∧ Keep Nil H H' ∧ H' fd = some (.lst (fs'.map V.int)) ∧ fs'.Nodup ∧ (∀ z ∈ fs', 0 ≤ z ∧ z ≤ g) ∧ (∀ z ∈ fs', Rc gs g z.toNat) ∧ (g : Int) ∈ fs' ∧ (∀ i z, i < at_ + 1 → fs'[i]? = some z → ∀ s, ∀ m ∈ mvs gs z.toNat s, m ∈ fs') ∧ at_ + 1 ≤ fs'.length, fun σ' H' ⟨x4, fs', a1, a2, a3, a4, a5, a6, a7, a8, a9⟩ => ⟨_, by omega, x4, at_ + 1, fs', by rw [a1]; rfl, a2, a3, a4, a5, a6, a7, a8, a9, rfl⟩, ?_⟩
    repeat kaf_suf
    intro r hr
    have kr := Keep.alloc (M := Nil) (o := .lst ((mvs gs zn true).map V.int ++ (mvs gs zn false).map V.int)) hr
    have er : (upd H1 r (.lst ((mvs gs zn true).map V.int ++ (mvs gs zn false).map V.int))) r = some (.lst ((mvs gs zn true ++ mvs gs zn false).map V.int)) := by rw [List.map_append]; exact upd_same
    have e2 := kr.get (fun z => z) e1
    have nr : r ≠ fd := ne_new hr e1
    have k2 := k1.trans kr
    generalize upd H1 r (.lst ((mvs gs zn true).map V.int ++ (mvs gs zn false).map V.int)) = H2 at er e2 k2 ⊢
    clear kr hr eR et eab ea eb
    repeat kaf_suf
    refine for_list (xs := (mvs gs zn true ++ mvs gs zn false).map V.int) (fun j σ H' => ∃ (x4 : Option V) (fs' : List Int), σ = [some (.ref R), some (.int g), some (.ref fd), some (.int at_), x4] ∧ Keep Nil H H' ∧ H' r = some (.lst ((mvs gs zn true ++ mvs gs zn false).map V.int)) ∧ H' fd = some (.lst (fs'.map V.int)) ∧ fs'.Nodup ∧ (∀ z ∈ fs', 0 ≤ z ∧ z ≤ g) ∧ (∀ z ∈ fs', Rc gs g z.toNat) ∧ (∃ gx, fs' = fs ++ gx) ∧ ∀ m ∈ (mvs gs zn true ++ mvs gs zn false).take j, m ∈ fs') ⟨_, fs, rfl, k2, er, e2, nd, lo, rcs, ⟨[], (List.append_nil _).symm⟩, fun m h => by cases h⟩ ?_ ?_ ?_
    · rintro j σ H' _ ⟨_, _, _, _, h, _⟩
      exact SqL.of h
    · rintro j x σ H3 hj ⟨y4, fs', rfl, k3, er3, e3, nd', lo', rc', ⟨gx, egx⟩, tk⟩
      rw [List.getElem?_map] at hj
      obtain ⟨mm, hm, rfl⟩ := Option.map_eq_some_iff.mp hj
      have hmm := List.mem_of_getElem? hm
      have sd' : ∃ s, mm ∈ mvs gs zn s := (List.mem_append.mp hmm).elim (fun h => ⟨true, h⟩) fun h => ⟨false, h⟩
      obtain ⟨s, hs⟩ := sd'
      obtain ⟨m0, m1, _⟩ := mvs_low go hs
      have fl' := keys_bound nd' lo'
      have rcm : Rc gs g mm.toNat := by
        have r0 := rcs _ zm
        rw [Int.toNat_natCast] at r0
        exact r0.step hs
      repeat kaf_suf
      refine v_ninL e3 ?_
      refine r_kB (r_iteN (fun hn => ?_) (fun hn => ?_))
      · repeat kaf_suf
        refine ⟨_, fs' ++ [mm], rfl, k3.setN hfd, get_set nr er3, by rw [List.map_append]; exact upd_same, ?_, fun z hz => ?_, fun z hz => ?_, ⟨gx ++ [mm], by rw [egx, List.append_assoc]⟩, fun x hx => ?_⟩
        · rw [List.nodup_append]
          refine ⟨nd', by simp, fun x hx y hy => ?_⟩
          cases List.mem_singleton.mp hy
          exact fun e => hn (e ▸ hx)
        · rcases List.mem_append.mp hz with h | h
          · exact lo' z h
          · cases List.mem_singleton.mp h; omega
        · rcases List.mem_append.mp hz with h | h
          · exact rc' z h
          · cases List.mem_singleton.mp h; exact rcm
        · rw [List.take_succ, hm] at hx
          rcases List.mem_append.mp hx with h | h
          · exact List.mem_append_left _ (tk x h)
          · cases List.mem_singleton.mp h
            exact List.mem_append_right _ List.mem_cons_self
      · repeat kaf_suf
        exact ⟨_, fs', rfl, k3, er3, e3, nd', lo', rc', ⟨gx, egx⟩, take_snocP hm tk hn⟩
    · rintro σ H3 ⟨y4, fs', rfl, k3, er3, e3, nd', lo', rc', ⟨gx, egx⟩, tk⟩
      rw [List.length_map, List.take_length] at tk
      have old : ∀ i z, i < fs.length → fs'[i]? = some z → fs[i]? = some z := fun i z hi h => by
        rw [egx, List.getElem?_append_left hi] at h; exact h
      repeat kaf_suf
      refine ⟨_, fs', rfl, k3, e3, nd', lo', rc', by rw [egx]; exact List.mem_append_left _ gm, fun i y hi hy s m hm => ?_, by rw [egx, List.length_append]; omega⟩
      by_cases ei : i = at_
      · subst ei
        have := old _ _ p' hy
        rw [hz] at this
        cases this
        rw [Int.toNat_natCast] at hm
        refine tk m ?_
        cases s
        · exact List.mem_append_right _ hm
        · exact List.mem_append_left _ hm
      · rw [egx]
        exact List.mem_append_left _ (cl i y (by omega) (old _ _ (by omega) hy) s m hm)
  · rw [List.length_map] at p
    repeat kaf_suf
    intro ns q pr _ hq
    refine k _ q ns (k1.new hq) upd_same (rc_all go (pr.mem_iff.mpr gm) (fun z hz => (lo z (pr.mem_iff.mp hz)).1) (fun z hz s m hm => pr.mem_iff.mpr ?_) fun z hz => rcs z (pr.mem_iff.mp hz))
    obtain ⟨i, hi, ei⟩ := List.getElem_of_mem (pr.mem_iff.mp hz)
    exact cl i z (by omega) (by rw [List.getElem?_eq_getElem hi, ei]) s m hm
theorem cal_law_positions {c : Cn} {mg : Str → Option Value} {base : Heap} (T : Txt c mg) : Cal c.P c.w c.K mg base CX0 1 "_law_positions" (sp_law_positions c) := by
  obtain ⟨f, fd, F, g, b⟩ := T.F_law_positions
  exact ⟨f, fd, ["rows", "g"], F.ok (k := 0) (N := N_law_positions) sc_law_positions (fun vs H Q E h => h.1) (fun cdv A outer s H vs Q E hr h => ⟨t_law_positions c, by
  exact (pss_cons (ps_set (i := 2) sc_law_positions.nd rfl (Or.inl rfl) (pe_lst (pa_cons (pv 1) pa_nil)))
  (pss_cons (ps_set (i := 3) sc_law_positions.nd rfl (Or.inl rfl) pe_int)
  (pss_cons (ps_while PassesOwn.never (pt_cmpR (o_lt (hu64 hr)) (pv 3) (pe_callB k_len (by rfl) T.n_len (by decide +kernel) (pa_cons (pv 2) pa_nil)) (nomark _))
  (pss_cons (ps_for PassesOwn.never rfl (pi_any (pe_op o_add (pe_ix (x_ix (hu64 hr)) (pe_ix (x_ix (hu64 hr)) (pv 0) (pe_ix (x_ix (hu64 hr)) (pv 2) (pv 3) (fun _ _ => rfl)) (fun _ _ => rfl)) pe_int (fun _ _ => rfl)) (pe_ix (x_ix (hu64 hr)) (pe_ix (x_ix (hu64 hr)) (pv 0) (pe_ix (x_ix (hu64 hr)) (pv 2) (pv 3) (fun _ _ => rfl)) (fun _ _ => rfl)) pe_int (fun _ _ => rfl)))) (pg_name (i := 4) sc_law_positions.nd rfl (Or.inl rfl))
  (pss_one (ps_if (pt_cmpR (o_notin (hu65 hr)) (pv 4) (pv 2) (by rfl)) (pss_one (ps_expr (pe_bm PySem.F.plainAttrs_list PySem.F.slot_list_append PySem.F.type_list_append mt_append (pv 2) (pa_cons (pv 4) pa_nil)))) pss_nil)))
  (pss_one (ps_set (i := 3) sc_law_positions.nd rfl (Or.inl rfl) (pe_op o_add (pv 3) pe_int)))))
  (pss_one (ps_ret (pe_callB (k_sorted rfl) (by rfl) T.n_sorted (by decide +kernel) (pa_cons (pv 2) pa_nil))))))), p_law_positions T h⟩), g, F.kp, b⟩
/-- what the law remembers -/
structure Tl (c : Cn) (kn : Addr) (gs : List Gm) (H : Hp) : Prop where
  ex : ∃ xs : List NX, NdAt c.P c.w H kn xs ∧ LM gs xs
theorem Tl.same {c : Cn} {kn : Addr} {gs : List Gm} {H H' : Hp} (t : Tl c kn gs H) (k : Keep Nil H H') : Tl c kn gs H' := by
  obtain ⟨xs, N, l⟩ := t.ex
  exact ⟨xs, ndSame N k, l⟩
theorem Tl.list {c : Cn} {kn : Addr} {gs : List Gm} {H H' : Hp} {q : Addr} {l : List V} (t : Tl c kn gs H) (h : H q = some (.lst l)) (k : Keep (fun x => x = kn) H H') : H' q = some (.lst l) := by
  obtain ⟨xs, N, _⟩ := t.ex
  exact k.get (nd_neL N h) h
theorem Tl.rows {c : Cn} {kn R : Addr} {gs gs' : List Gm} {H H' : Hp} (t : Tl c kn gs H) (r : RwAt H R gs') (k : Keep (fun x => x = kn) H H') : RwAt H' R gs' := by
  obtain ⟨xs, N, _⟩ := t.ex
  exact r.nd N k
abbrev N_law_beaten : List Str := ["rows", "g", "side", "move", "told", "by", "one", "other"]
theorem sc_law_beaten : FnScope N_law_beaten ["rows", "g", "side", "move", "told"] (defScope s_law_beaten) := ⟨rfl, rfl, rfl, by decide +kernel, rfl, by decide +kernel, by decide +kernel⟩
def t_law_beaten (c : Cn) : TS :=
  (tSeq (tFor (iAny c.K (tOp (bIx c.P c.w c.K) (tOp (bIx c.P c.w c.K) (tVar 0) (tVar 1)) (tVar 2))) (gName 5)
  (tSeq (tAsg (tOp (bIx c.P c.w c.K) (tLst (tCons (tTup (tCons (tVar 5) (tCons (tVar 3) tNil))) (tCons (tTup (tCons (tVar 3) (tCons (tVar 5) tNil))) tNil))) (tVar 2)) (gSeq c.K 2 (gCons (gName 6) (gCons (gName 7) gNil))))
  (tIfS (tAnd (tTest (tOp (cNe c.K) (tVar 5) (tVar 3))) (tTru c.K (tCall (sp_law_no_less c) [] E0 (tCons (tVar 0) (tCons (tVar 6) (tCons (tVar 7) (tCons (tVar 4) tNil)))))))
  (tRet (tC (.bl true)))
  tNext)))
  (tRet (tC (.bl false))))
def sp_law_beaten (c : Cn) : Sp := fun vs H Q E => vs.length = 5 ∧ ∃ (R kn : Addr) (gs : List Gm) (g m : Nat) (s : Bool), vs = [.ref R, .int g, .int (sx s), .int m, .ref kn] ∧ RwAt H R gs ∧ GOk gs ∧ gs.length ≤ 20 ∧ g < gs.length ∧ m < gs.length ∧ Tl c kn gs H ∧
  ∀ (H' : Hp) (bb : Bool), Keep (fun x => x = kn) H H' → Tl c kn gs H' → (bb = true ↔ ∃ y ∈ mvs gs g s, y ≠ m ∧ bt gs s m y.toNat = true) → Q (.bl bb) H'
theorem p_law_beaten {c : Cn} {mg : Str → Option Value} (T : Txt c mg) {vs : List V} {H : Hp} {Q : VK} {E : XK} (h : sp_law_beaten c vs H Q E) : t_law_beaten c { nx := fun _ H' => Q .non H', rt := Q } (start N_law_beaten vs) H := by
  obtain ⟨_, R, kn, gs, g, m, s, rfl, M, go, few, hg, hm, tl, k⟩ := h
  obtain ⟨ks, t, q, ab, eR, et, eab, eq, emv⟩ := M.row hg s
  unfold t_law_beaten
  repeat kaf_suf
  refine for_list (xs := (mvs gs g s).map V.int) (fun j σ H' => ∃ (x5 x6 x7 : Option V), σ = [some (.ref R), some (.int g), some (.int (sx s)), some (.int m), some (.ref kn), x5, x6, x7] ∧ Keep (fun x => x = kn) H H' ∧ Tl c kn gs H' ∧ ∀ y ∈ (mvs gs g s).take j, y ≠ (m : Int) → bt gs s m y.toNat = false) ⟨_, _, _, rfl, Keep.refl, tl, fun y h => by cases h⟩ ?_ ?_ ?_
  · rintro j σ H' _ ⟨_, _, _, _, k1, _⟩
    exact SqL.of (tl.list emv k1)
  · rintro j x σ H1 hj ⟨x5, x6, x7, rfl, k1, t1, done⟩
    rw [List.getElem?_map] at hj
    obtain ⟨y, hy, rfl⟩ := Option.map_eq_some_iff.mp hj
    have ym := List.mem_of_getElem? hy
    obtain ⟨y0, y1, _⟩ := mvs_low go ym
    obtain ⟨yn, rfl⟩ := Int.eq_ofNat_of_zero_le y0
    repeat kaf_suf
    intro p1 hp1
    repeat kaf_suf
    intro p2 hp2
    repeat kaf_suf
    intro L hL
    have kk := ((Keep.alloc (M := Nil) (o := .tup [.int yn, .int m]) hp1).new (o := .tup [.int m, .int yn]) hp2).new (o := .lst [.ref p1, .ref p2]) hL
    have f1 := get_new (u := .lst [.ref p1, .ref p2]) hL (get_new (u := .tup [.int m, .int yn]) hp2 (upd_same (H := H1) (a := p1) (o := .tup [.int yn, .int m])))
    have f2 := get_new (u := .lst [.ref p1, .ref p2]) hL (upd_same (H := upd H1 p1 (.tup [.int yn, .int m])) (a := p2) (o := .tup [.int m, .int yn]))
    have f3 : (upd (upd (upd H1 p1 (.tup [.int yn, .int m])) p2 (.tup [.int m, .int yn])) L (.lst [.ref p1, .ref p2])) L = some (.lst [.ref p1, .ref p2]) := upd_same
    generalize upd (upd (upd H1 p1 (.tup [.int yn, .int m])) p2 (.tup [.int m, .int yn])) L (.lst [.ref p1, .ref p2]) = H2 at kk f1 f2 f3 ⊢
    clear hp1 hp2 hL
    have t2 := t1.same kk
    have M2 := (tl.rows M k1).same kk
    have k2 := k1.trans kk.weak
    obtain ⟨pq, u, w, hpq, epq, hu, hw, ebt⟩ : ∃ (pq : Addr) (u w : Nat), atI [V.ref p1, V.ref p2] (sx s) = some (.ref pq) ∧ H2 pq = some (.tup [.int u, .int w]) ∧ u < gs.length ∧ w < gs.length ∧ ge gs u w = bt gs s m yn := by
      cases s
      · exact ⟨p2, m, yn, rfl, f2, hm, by omega, rfl⟩
      · exact ⟨p1, yn, m, rfl, f1, by omega, hm, rfl⟩
    clear f1 f2
    repeat kaf_suf
    refine r_iteN (fun ne => ?_) (fun e => ?_)
    · obtain ⟨xs, N2, ok2⟩ := t2.ex
      repeat kaf_suf
      refine ⟨rfl, R, kn, gs, u, w, xs, rfl, M2, go, few, hu, hw, N2, ok2, fun H3 xs3 k3 N3 ok3 => ?_⟩
      rw [ebt]
      cases hb : bt gs s m yn with
      | true =>
        repeat kaf_suf
        exact k H3 true (k2.trans k3) ⟨xs3, N3, ok3⟩ ⟨fun _ => ⟨_, ym, ne, by rw [Int.toNat_natCast]; exact hb⟩, fun _ => rfl⟩
      | false =>
        repeat kaf_suf
        exact ⟨_, _, _, rfl, k2.trans k3, ⟨xs3, N3, ok3⟩, take_snocP hy done fun _ => by rw [Int.toNat_natCast]; exact hb⟩
    · repeat kaf_suf
      exact ⟨_, _, _, rfl, k2, t2, take_snocP hy done fun n => absurd e n⟩
  · rintro σ H1 ⟨x5, x6, x7, rfl, k1, t1, done⟩
    rw [List.length_map, List.take_length] at done
    repeat kaf_suf
    refine k H1 false k1 t1 ⟨fun z => (by cases z), fun ⟨y, hy, ne, hb⟩ => ?_⟩
    rw [done y hy ne] at hb
    exact hb
theorem cal_law_beaten {c : Cn} {mg : Str → Option Value} {base : Heap} (T : Txt c mg) : Cal c.P c.w c.K mg base CX0 65 "_law_beaten" (sp_law_beaten c) := by
  obtain ⟨f, fd, F, g, b⟩ := T.F_law_beaten
  exact ⟨f, fd, ["rows", "g", "side", "move", "told"], F.ok (k := 64) (N := N_law_beaten) sc_law_beaten (fun vs H Q E h => h.1) (fun cdv A outer s H vs Q E hr h => ⟨t_law_beaten c, by
  exact (pss_cons (ps_for PassesOwn.never rfl (pi_any (pe_ix (x_ix (hu64 hr)) (pe_ix (x_ix (hu64 hr)) (pv 0) (pv 1) (fun _ _ => rfl)) (pv 2) (fun _ _ => rfl))) (pg_name (i := 5) sc_law_beaten.nd rfl (Or.inl rfl))
  (pss_cons (ps_asg (pe_ix (x_ix (hu64 hr)) (pe_lst (pa_cons (pe_tup (pa_cons (pv 5) (pa_cons (pv 3) pa_nil))) (pa_cons (pe_tup (pa_cons (pv 3) (pa_cons (pv 5) pa_nil))) pa_nil))) (pv 2) (fun _ _ => rfl)) (g_seq rfl (pgs_cons (pg_name (i := 6) sc_law_beaten.nd rfl (Or.inl rfl)) (pgs_cons (pg_name (i := 7) sc_law_beaten.nd rfl (Or.inl rfl)) pgs_nil))))
  (pss_one (ps_if (PW.pt (pw_and (pt_cmpR (o_ne (hu64 hr)) (pv 5) (pv 3) (nomark _)) (pw_and1 (p_tru (e_call (cal_law_no_less T) hr (by decide) pass0 rfl (pa_cons (pv 0) (pa_cons (pv 6) (pa_cons (pv 7) (pa_cons (pv 4) pa_nil))))))))) (pss_one (ps_ret pe_bl)) pss_nil))))
  (pss_one (ps_ret pe_bl))), p_law_beaten T h⟩), g, F.kp, b⟩
abbrev N_law_answers : List Str := ["rows", "g", "side", "move", "told", "found", "a", "one", "other"]
theorem sc_law_answers : FnScope N_law_answers ["rows", "g", "side", "move", "told"] (defScope s_law_answers) := ⟨rfl, rfl, rfl, by decide +kernel, rfl, by decide +kernel, by decide +kernel⟩
def t_law_answers (c : Cn) : TS :=
  (tSeq (tAsg (tLst tNil) (gName 5))
  (tSeq (tFor (iAny c.K (tOp (bIx c.P c.w c.K) (tOp (bIx c.P c.w c.K) (tVar 0) (tVar 3)) (tOp bSub (tC (.int 1)) (tVar 2)))) (gName 6)
  (tSeq (tAsg (tOp (bIx c.P c.w c.K) (tLst (tCons (tTup (tCons (tVar 1) (tCons (tVar 6) tNil))) (tCons (tTup (tCons (tVar 6) (tCons (tVar 1) tNil))) tNil))) (tVar 2)) (gSeq c.K 2 (gCons (gName 7) (gCons (gName 8) gNil))))
  (tIfS (tTru c.K (tCall (sp_law_no_less c) [] E0 (tCons (tVar 0) (tCons (tVar 7) (tCons (tVar 8) (tCons (tVar 4) tNil))))))
  (tDrop (tBM c.K "list" rAppend (tVar 5) (tCons (tVar 6) tNil)))
  tNext)))
  (tRet (tVar 5))))
def sp_law_answers (c : Cn) : Sp := fun vs H Q E => vs.length = 5 ∧ ∃ (R kn : Addr) (gs : List Gm) (g m : Nat) (s : Bool), vs = [.ref R, .int g, .int (sx s), .int m, .ref kn] ∧ RwAt H R gs ∧ GOk gs ∧ gs.length ≤ 20 ∧ g < gs.length ∧ m < gs.length ∧ Tl c kn gs H ∧
  ∀ (H' : Hp) (l : Addr) (ms : List Int), Keep (fun x => x = kn) H H' → Tl c kn gs H' → H' l = some (.lst (ms.map V.int)) → (∀ a, a ∈ ms ↔ a ∈ mvs gs m (!s) ∧ an gs s g a.toNat = true) → Q (.ref l) H'
theorem p_law_answers {c : Cn} {mg : Str → Option Value} (T : Txt c mg) {vs : List V} {H : Hp} {Q : VK} {E : XK} (h : sp_law_answers c vs H Q E) : t_law_answers c { nx := fun _ H' => Q .non H', rt := Q } (start N_law_answers vs) H := by
  obtain ⟨_, R, kn, gs, g, m, s, rfl, M, go, few, hg, hm, tl, k⟩ := h
  have s01 : (1 : Int) - sx s = sx (!s) := by cases s <;> rfl
  have ml := mvs_len go (g := m) (s := !s) hm
  obtain ⟨ks, t, q, ab, eR, et, eab, eq, emv⟩ := M.row hm (!s)
  rw [← s01] at eq
  unfold t_law_answers
  repeat kaf_suf
  intro l hl
  have kl := Keep.alloc (M := Nil) (o := .lst []) hl
  have tl1 := tl.same kl
  have eR := kl.get (fun z => z) eR
  have eab := kl.get (fun z => z) eab
  have emv1 := kl.get (fun z => z) emv
  have el : (upd H l (.lst [])) l = some (.lst []) := upd_same
  generalize upd H l (.lst []) = H1 at kl tl1 eR eab emv1 el ⊢
  repeat kaf_suf
  refine for_list (xs := (mvs gs m (!s)).map V.int) (fun j σ H' => ∃ (x6 x7 x8 : Option V) (ms : List Int), σ = [some (.ref R), some (.int g), some (.int (sx s)), some (.int m), some (.ref kn), some (.ref l), x6, x7, x8] ∧ Keep (fun x => x = kn) H H' ∧ Tl c kn gs H' ∧ H' l = some (.lst (ms.map V.int)) ∧ ms.length ≤ j ∧ ∀ a, a ∈ ms ↔ a ∈ (mvs gs m (!s)).take j ∧ an gs s g a.toNat = true) ⟨_, _, _, [], rfl, kl.weak, tl1, el, Nat.le_refl _, fun a => by simp⟩ ?_ ?_ ?_
  · rintro j σ H' _ ⟨_, _, _, _, _, kk, _⟩
    exact SqL.of (tl.list emv kk)
  · rintro j x σ H2 hj ⟨x6, x7, x8, ms, rfl, k2, t2, el2, lms, hms⟩
    have M2 := tl.rows M k2
    rw [List.getElem?_map] at hj
    obtain ⟨a, ha, rfl⟩ := Option.map_eq_some_iff.mp hj
    have hjl := (List.getElem?_eq_some_iff.mp ha).1
    have am := List.mem_of_getElem? ha
    obtain ⟨a0, a1, _⟩ := mvs_low go am
    obtain ⟨an', rfl⟩ := Int.eq_ofNat_of_zero_le a0
    have tk : ∀ b, b ∈ (mvs gs m (!s)).take (j + 1) ↔ b ∈ (mvs gs m (!s)).take j ∨ b = (an' : Int) := fun b => by
      rw [List.take_succ, ha, List.mem_append]; simp
    repeat kaf_suf
    intro p1 hp1
    repeat kaf_suf
    intro p2 hp2
    repeat kaf_suf
    intro L hL
    have kk := ((Keep.alloc (M := Nil) (o := .tup [.int g, .int an']) hp1).new (o := .tup [.int an', .int g]) hp2).new (o := .lst [.ref p1, .ref p2]) hL
    have f1 := get_new (u := .lst [.ref p1, .ref p2]) hL (get_new (u := .tup [.int an', .int g]) hp2 (upd_same (H := H2) (a := p1) (o := .tup [.int g, .int an'])))
    have f2 := get_new (u := .lst [.ref p1, .ref p2]) hL (upd_same (H := upd H2 p1 (.tup [.int g, .int an'])) (a := p2) (o := .tup [.int an', .int g]))
    have f3 : (upd (upd (upd H2 p1 (.tup [.int g, .int an'])) p2 (.tup [.int an', .int g])) L (.lst [.ref p1, .ref p2])) L = some (.lst [.ref p1, .ref p2]) := upd_same
    generalize upd (upd (upd H2 p1 (.tup [.int g, .int an'])) p2 (.tup [.int an', .int g])) L (.lst [.ref p1, .ref p2]) = H3 at kk f1 f2 f3 ⊢
    clear hp1 hp2 hL
    have t3 := t2.same kk
    have M3 := M2.same kk
    have k3 := k2.trans kk.weak
    have el3 := kk.get (fun z => z) el2
    obtain ⟨pq, u, w, hpq, epq, hu, hw, ebt⟩ : ∃ (pq : Addr) (u w : Nat), atI [V.ref p1, V.ref p2] (sx s) = some (.ref pq) ∧ H3 pq = some (.tup [.int u, .int w]) ∧ u < gs.length ∧ w < gs.length ∧ ge gs u w = an gs s g an' := by
      cases s
      · exact ⟨p2, an', g, rfl, f2, by omega, hg, rfl⟩
      · exact ⟨p1, g, an', rfl, f1, hg, by omega, rfl⟩
    clear f1 f2 kk el2 t2 M2 k2
    obtain ⟨xs, N3, ok3⟩ := t3.ex
    repeat kaf_suf
    refine ⟨rfl, R, kn, gs, u, w, xs, rfl, M3, go, few, hu, hw, N3, ok3, fun H4 xs4 k4 N4 ok4 => ?_⟩
    have el4 := t3.list el3 k4
    rw [ebt]
    cases hb : an gs s g an' with
    | true =>
      repeat kaf_suf
      refine ⟨_, _, _, ms ++ [(an' : Int)], rfl, (k3.trans k4).setN hl, ⟨xs4, ndSet N4 el4, ok4⟩, by rw [List.map_append]; exact upd_same, by rw [List.length_append]; show ms.length + 1 ≤ _; omega, fun b => ?_⟩
      · rw [List.mem_append, hms, tk, List.mem_singleton]
        constructor
        · rintro (⟨h1, h2⟩ | rfl)
          · exact ⟨.inl h1, h2⟩
          · exact ⟨.inr rfl, by rw [Int.toNat_natCast]; exact hb⟩
        · rintro ⟨h1 | rfl, h2⟩
          · exact .inl ⟨h1, h2⟩
          · exact .inr rfl
    | false =>
      repeat kaf_suf
      refine ⟨_, _, _, ms, rfl, k3.trans k4, ⟨xs4, N4, ok4⟩, el4, by omega, fun b => ?_⟩
      rw [hms, tk]
      constructor
      · rintro ⟨h1, h2⟩
        exact ⟨.inl h1, h2⟩
      · rintro ⟨h1 | rfl, h2⟩
        · exact ⟨h1, h2⟩
        · rw [Int.toNat_natCast, hb] at h2; cases h2
  · rintro σ H2 ⟨x6, x7, x8, ms, rfl, k2, t2, el2, lms, hms⟩
    rw [List.length_map, List.take_length] at hms
    repeat kaf_suf
    exact k H2 l ms k2 t2 el2 hms
theorem cal_law_answers {c : Cn} {mg : Str → Option Value} {base : Heap} (T : Txt c mg) : Cal c.P c.w c.K mg base CX0 65 "_law_answers" (sp_law_answers c) := by
  obtain ⟨f, fd, F, g, b⟩ := T.F_law_answers
  exact ⟨f, fd, ["rows", "g", "side", "move", "told"], F.ok (k := 64) (N := N_law_answers) sc_law_answers (fun vs H Q E h => h.1) (fun cdv A outer s H vs Q E hr h => ⟨t_law_answers c, by
  exact (pss_cons (ps_set (i := 5) sc_law_answers.nd rfl (Or.inl rfl) (pe_lst pa_nil))
  (pss_cons (ps_for PassesOwn.never rfl (pi_any (pe_ix (x_ix (hu64 hr)) (pe_ix (x_ix (hu64 hr)) (pv 0) (pv 3) (fun _ _ => rfl)) (pe_op o_sub pe_int (pv 2)) (fun _ _ => rfl))) (pg_name (i := 6) sc_law_answers.nd rfl (Or.inl rfl))
  (pss_cons (ps_asg (pe_ix (x_ix (hu64 hr)) (pe_lst (pa_cons (pe_tup (pa_cons (pv 1) (pa_cons (pv 6) pa_nil))) (pa_cons (pe_tup (pa_cons (pv 6) (pa_cons (pv 1) pa_nil))) pa_nil))) (pv 2) (fun _ _ => rfl)) (g_seq rfl (pgs_cons (pg_name (i := 7) sc_law_answers.nd rfl (Or.inl rfl)) (pgs_cons (pg_name (i := 8) sc_law_answers.nd rfl (Or.inl rfl)) pgs_nil))))
  (pss_one (ps_if (p_tru (e_call (cal_law_no_less T) hr (by decide) pass0 rfl (pa_cons (pv 0) (pa_cons (pv 7) (pa_cons (pv 8) (pa_cons (pv 4) pa_nil)))))) (pss_one (ps_expr (pe_bm PySem.F.plainAttrs_list PySem.F.slot_list_append PySem.F.type_list_append mt_append (pv 5) (pa_cons (pv 6) pa_nil)))) pss_nil))))
  (pss_one (ps_ret (pv 5))))), p_law_answers T h⟩), g, F.kp, b⟩

abbrev N_law_plain : List Str := ["rows", "g", "told", "here", "side", "move"]
theorem sc_law_plain : FnScope N_law_plain ["rows", "g", "told"] (defScope s_law_plain) := ⟨rfl, rfl, rfl, by decide +kernel, rfl, by decide +kernel, by decide +kernel⟩
def t_law_plain (c : Cn) : TS :=
  (tSeq (tFor (iAny c.K (tCall (sp_law_positions c) [] E0 (tCons (tVar 0) (tCons (tVar 1) tNil)))) (gName 3)
  (tFor (iRng1 (tCons (tC (.int 2)) tNil)) (gName 4)
  (tFor (iAny c.K (tOp (bIx c.P c.w c.K) (tOp (bIx c.P c.w c.K) (tVar 0) (tVar 3)) (tVar 4))) (gName 5)
  (tSeq (tIfS (tTru c.K (tCall (sp_law_beaten c) [] E0 (tCons (tVar 0) (tCons (tVar 3) (tCons (tVar 4) (tCons (tVar 5) (tCons (tVar 2) tNil)))))))
  (tRet (tC (.bl false)))
  tNext)
  (tIfS (tTest (tOp (cNe c.K) (tCall (sp_law_answers c) [] E0 (tCons (tVar 0) (tCons (tVar 3) (tCons (tVar 4) (tCons (tVar 5) (tCons (tVar 2) tNil)))))) (tLst tNil)))
  (tRet (tC (.bl false)))
  tNext)))))
  (tRet (tC (.bl true))))
def sp_law_plain (c : Cn) : Sp := fun vs H Q E => vs.length = 3 ∧ ∃ (R kn : Addr) (gs : List Gm) (g : Nat), vs = [.ref R, .int g, .ref kn] ∧ RwAt H R gs ∧ GOk gs ∧ gs.length ≤ 20 ∧ g < gs.length ∧ Tl c kn gs H ∧
  ∀ (H' : Hp) (bb : Bool), Keep (fun x => x = kn) H H' → Tl c kn gs H' → (bb = true ↔ PlainP gs g) → Q (.bl bb) H'
theorem p_law_plain {c : Cn} {mg : Str → Option Value} (T : Txt c mg) {vs : List V} {H : Hp} {Q : VK} {E : XK} (h : sp_law_plain c vs H Q E) : t_law_plain c { nx := fun _ H' => Q .non H', rt := Q } (start N_law_plain vs) H := by
  obtain ⟨_, R, kn, gs, g, rfl, M, go, few, hg, tl, k⟩ := h
  unfold t_law_plain
  repeat kaf_suf
  refine ⟨rfl, R, gs, g, rfl, M, go, hg, by omega, fun H1 p rs k1 ep rc => ?_⟩
  have M1 := M.same k1
  have tl1 := tl.same k1
  repeat kaf_suf
  refine for_list (xs := rs.map V.int) (fun i σ H' => ∃ (x3 x4 x5 : Option V), σ = [some (.ref R), some (.int g), some (.ref kn), x3, x4, x5] ∧ Keep (fun x => x = kn) H1 H' ∧ Tl c kn gs H' ∧ ∀ z ∈ rs.take i, ∀ s, ∀ m ∈ mvs gs z.toNat s, (∀ y ∈ mvs gs z.toNat s, y ≠ m → bt gs s m.toNat y.toNat = false) ∧ ∀ a ∈ mvs gs m.toNat (!s), an gs s z.toNat a.toNat = false) ⟨_, _, _, rfl, Keep.refl, tl1, fun s h => by cases h⟩ ?_ ?_ ?_
  · rintro i σ H' _ ⟨_, _, _, _, k2, _⟩
    exact SqL.of (tl1.list ep k2)
  · rintro i x σ H2 hi ⟨x3, x4, x5, rfl, k2, t2, done⟩
    rw [List.getElem?_map] at hi
    obtain ⟨z, hz, rfl⟩ := Option.map_eq_some_iff.mp hi
    obtain ⟨z0, rz⟩ := (rc z).mp (List.mem_of_getElem? hz)
    obtain ⟨zn, rfl⟩ := Int.eq_ofNat_of_zero_le z0
    rw [Int.toNat_natCast] at rz
    have zg := rz.le go
    repeat kaf_suf
    refine for_range (lo := 0) (n := (2 : Int).toNat) (fun j σ H' => ∃ (x4 x5 : Option V), σ = [some (.ref R), some (.int g), some (.ref kn), some (.int zn), x4, x5] ∧ Keep (fun x => x = kn) H1 H' ∧ Tl c kn gs H' ∧ ∀ s ∈ [true, false].take j, ∀ m ∈ mvs gs zn s, (∀ y ∈ mvs gs zn s, y ≠ m → bt gs s m.toNat y.toNat = false) ∧ ∀ a ∈ mvs gs m.toNat (!s), an gs s zn a.toNat = false) ⟨_, _, rfl, k2, t2, fun s h => by cases h⟩ ?_ ?_
    · rintro j σ H3 hj ⟨y4, y5, rfl, k3, t3, done3⟩
      have hj2 : j < 2 := hj
      obtain ⟨s, hs, es⟩ : ∃ s, [true, false][j]? = some s ∧ (0 : Int) + (j : Int) = sx s := by
        have : j = 0 ∨ j = 1 := by omega
        rcases this with rfl | rfl
        · exact ⟨true, rfl, rfl⟩
        · exact ⟨false, rfl, rfl⟩
      have M3 := tl1.rows M1 k3
      obtain ⟨ks, t, q, ab, eR, et, eab, eq, emv⟩ := M3.row (g := zn) (by omega) s
      rw [es]
      repeat kaf_suf
      refine for_list (xs := (mvs gs zn s).map V.int) (fun j σ H' => ∃ (x5 : Option V), σ = [some (.ref R), some (.int g), some (.ref kn), some (.int zn), some (.int (sx s)), x5] ∧ Keep (fun x => x = kn) H1 H' ∧ Keep (fun x => x = kn) H3 H' ∧ Tl c kn gs H' ∧ ∀ m ∈ (mvs gs zn s).take j, (∀ y ∈ mvs gs zn s, y ≠ m → bt gs s m.toNat y.toNat = false) ∧ ∀ a ∈ mvs gs m.toNat (!s), an gs s zn a.toNat = false) ⟨_, rfl, k3, Keep.refl, t3, fun m h => by cases h⟩ ?_ ?_ ?_
      · rintro j σ H' _ ⟨_, _, _, k4, _⟩
        exact SqL.of (t3.list emv k4)
      · rintro j2 x σ H4 hj ⟨z5, rfl, k4, k34, t4, done4⟩
        rw [List.getElem?_map] at hj
        obtain ⟨m, hm, rfl⟩ := Option.map_eq_some_iff.mp hj
        have mm := List.mem_of_getElem? hm
        obtain ⟨m0, m1, _⟩ := mvs_low go mm
        obtain ⟨mn, rfl⟩ := Int.eq_ofNat_of_zero_le m0
        repeat kaf_suf
        refine ⟨rfl, R, kn, gs, zn, mn, s, rfl, tl1.rows M1 k4, go, few, by omega, by omega, t4, fun H5 bb k5 t5 hbb => ?_⟩
        cases bb with
        | true =>
          repeat kaf_suf
          obtain ⟨y, hy, ne, hb⟩ := hbb.mp rfl
          refine k H5 false (k1.weak.trans (k4.trans k5)) t5 ⟨fun z => (by cases z), fun pl => ?_⟩
          have := (pl zn rz s mn mm).1 y hy ne
          rw [Int.toNat_natCast, hb] at this
          cases this
        | false =>
          have nb : ∀ y ∈ mvs gs zn s, y ≠ (mn : Int) → bt gs s mn y.toNat = false := fun y hy ne => by
            cases e : bt gs s mn y.toNat with
            | false => rfl
            | true => have := hbb.mpr ⟨y, hy, ne, e⟩; cases this
          repeat kaf_suf
          refine ⟨rfl, R, kn, gs, zn, mn, s, rfl, tl1.rows M1 (k4.trans k5), go, few, by omega, by omega, t5, fun H6 l ms k6 t6 el hms => ?_⟩
          repeat kaf_suf
          intro r hr
          refine v_neD (dp_ints (get_new hr el)) (.lst (SqL.of upd_same) .nil) (dInts_sh _) (dInts_sh []) ?_
          rw [show PyData.eqv (dInts ms) (.list []) = decide (ms = []) from eqv_dInts ms []]
          have kr := Keep.alloc (M := Nil) (o := .lst []) hr
          have t7 := t6.same kr
          have k7 := (k5.trans k6).trans kr.weak
          generalize upd H6 r (.lst []) = H7 at t7 k7 ⊢
          clear kr hr el
          refine r_kB (r_iteN (fun ne => ?_) (fun e => ?_))
          · repeat kaf_suf
            refine k H7 false (k1.weak.trans (k4.trans k7)) t7 ⟨fun z => (by cases z), fun pl => ?_⟩
            obtain ⟨a, ha⟩ := List.exists_mem_of_ne_nil _ ne
            obtain ⟨h1, h2⟩ := (hms a).mp ha
            have := (pl zn rz s mn mm).2 a (by rw [Int.toNat_natCast]; exact h1)
            rw [h2] at this
            cases this
          · repeat kaf_suf
            refine ⟨_, rfl, k4.trans k7, k34.trans k7, t7, take_snocP hm done4 ⟨fun y hy ne => by rw [Int.toNat_natCast]; exact nb y hy ne, fun a ha => ?_⟩⟩
            rw [Int.toNat_natCast] at ha
            cases e2 : an gs s zn a.toNat with
            | false => rfl
            | true =>
              have := (hms a).mpr ⟨ha, e2⟩
              rw [e] at this
              cases this
      · rintro σ H4 ⟨z5, rfl, k4, k34, t4, done4⟩
        rw [List.length_map, List.take_length] at done4
        repeat kaf_suf
        exact ⟨_, _, rfl, k4, t4, take_snocP hs done3 done4⟩
    · rintro σ H3 ⟨y4, y5, rfl, k3, t3, done3⟩
      repeat kaf_suf
      exact ⟨_, _, _, rfl, k3, t3, take_snocP hz done fun s => by rw [Int.toNat_natCast]; exact done3 s (by cases s <;> decide)⟩
  · rintro σ H2 ⟨x3, x4, x5, rfl, k2, t2, done⟩
    rw [List.length_map, List.take_length] at done
    repeat kaf_suf
    exact k H2 true (k1.weak.trans k2) t2 ⟨fun _ h rh s m hm => done h ((rc h).mpr ⟨by omega, by rw [Int.toNat_natCast]; exact rh⟩) s m (by rw [Int.toNat_natCast]; exact hm), fun _ => rfl⟩
theorem cal_law_plain {c : Cn} {mg : Str → Option Value} {base : Heap} (T : Txt c mg) : Cal c.P c.w c.K mg base CX0 66 "_law_plain" (sp_law_plain c) := by
  obtain ⟨f, fd, F, g, b⟩ := T.F_law_plain
  exact ⟨f, fd, ["rows", "g", "told"], F.ok (k := 65) (N := N_law_plain) sc_law_plain (fun vs H Q E h => h.1) (fun cdv A outer s H vs Q E hr h => ⟨t_law_plain c, by
  exact (pss_cons (ps_for PassesOwn.never rfl (pi_any (e_call (cal_law_positions T) hr (by decide) pass0 rfl (pa_cons (pv 0) (pa_cons (pv 1) pa_nil)))) (pg_name (i := 3) sc_law_plain.nd rfl (Or.inl rfl))
  (pss_one (ps_for PassesOwn.never rfl (pi_range1 rfl T.n_range (pa_cons pe_int pa_nil)) (pg_name (i := 4) sc_law_plain.nd rfl (Or.inl rfl))
  (pss_one (ps_for PassesOwn.never rfl (pi_any (pe_ix (x_ix (hu64 hr)) (pe_ix (x_ix (hu64 hr)) (pv 0) (pv 3) (fun _ _ => rfl)) (pv 4) (fun _ _ => rfl))) (pg_name (i := 5) sc_law_plain.nd rfl (Or.inl rfl))
  (pss_cons (ps_if (p_tru (e_call (cal_law_beaten T) hr (by decide) pass0 rfl (pa_cons (pv 0) (pa_cons (pv 3) (pa_cons (pv 4) (pa_cons (pv 5) (pa_cons (pv 2) pa_nil))))))) (pss_one (ps_ret pe_bl)) pss_nil)
  (pss_one (ps_if (pt_cmpR (o_ne (hu64 hr)) (e_call (cal_law_answers T) hr (by decide) pass0 rfl (pa_cons (pv 0) (pa_cons (pv 3) (pa_cons (pv 4) (pa_cons (pv 5) (pa_cons (pv 2) pa_nil)))))) (pe_lst pa_nil) (nomark _)) (pss_one (ps_ret pe_bl)) pss_nil))))))))
  (pss_one (ps_ret pe_bl))), p_law_plain T h⟩), g, F.kp, b⟩
def dRw (g : Gm) : PyData := .list [dInts g.1, dInts g.2]
theorem RwAt.dp {K : PySem.W.Frag} {H : Hp} {R : Addr} {gs : List Gm} (r : RwAt H R gs) : Dp K H (.ref R) (.list (gs.map dRw)) := by
  obtain ⟨ks, h, p⟩ := r
  refine .lst (SqL.of h) ?_
  clear h
  induction p with
  | nil => exact .nil
  | cons r _ ih =>
    obtain ⟨a, b, h1, h2, h3, _⟩ := r
    exact .cons (dp_two h1 h2 h3) ih
theorem pl_dRw (g : Gm) : pl (dRw g) = true := by
  show plA [dInts g.1, dInts g.2] = true
  have h := pl_ints g.1
  have h2 := pl_ints g.2
  show (pl (dInts g.1) && (pl (dInts g.2) && true)) = true
  rw [show pl (dInts g.1) = true from h, show pl (dInts g.2) = true from h2]
  rfl
theorem dRws_sh (gs : List Gm) : SeqAt.shaped (.list (gs.map dRw)) = true := by
  refine sh_pl (plA_map fun x => pl_dRw x) ?_
  have := depth_list (n := 5) (ds := gs.map dRw) fun d hd => by
    obtain ⟨x, _, rfl⟩ := List.mem_map.mp hd
    have h1 := dInts_dep x.1
    have h2 := dInts_dep x.2
    simp only [dRw, PyData.depth, PyData.depthAll, h1, h2]
    omega
  omega
theorem eqv_rws (gs : List Gm) : PyData.eqv (.list (gs.map dRw)) (.list (gs.map dRw)) = true := (eqv_iff (.list (gs.map dRw)) (.list (gs.map dRw)) (show plA _ = true from plA_map fun x => pl_dRw x) (show plA _ = true from plA_map fun x => pl_dRw x)).mpr rfl
theorem cutV_all {xs : List V} {n : Nat} (h : n = xs.length) : cutV xs none (some (n : Int)) = xs := by
  subst h
  unfold cutV HT.sIx
  simp
  rw [if_neg (by omega)]
  exact List.take_length
abbrev N_law : List Str := ["script", "book", "games", "rows", "told", "g", "due", "found"]
theorem sc_law : FnScope N_law ["script"] (defScope s_law) := ⟨rfl, rfl, rfl, by decide +kernel, rfl, by decide +kernel, by decide +kernel⟩
def t_law (c : Cn) : TS :=
  (tSeq (tAsg (tMake c.cBook (sp_Book_init c) [] E0 tNil) (gName 1))
  (tSeq (tAsg (tCall (sp_law_games c) [] E0 (tCons (tVar 1) (tCons (tVar 0) (tCons (tC (.int 2)) (tCons (tOp (bAdd c.K) (tC (.int 3)) (tOp bMod (tCall (sp_law_cell c) [] E0 (tCons (tVar 0) (tCons (tC (.int 1)) tNil))) (tC (.int 12)))) tNil))))) (gName 2))
  (tSeq (tAsg (tCall (sp_law_rows c) [] E0 (tCons (tVar 1) tNil)) (gName 3))
  (tSeq (tAsg (uDNew c.P c.w) (gName 4))
  (tSeq (tFor (iAny c.K (tVar 2)) (gName 5)
  (tSeq (tAsg (tCall (sp_law_plain c) [] E0 (tCons (tVar 3) (tCons (tVar 5) (tCons (tVar 4) tNil)))) (gName 6))
  (tSeq (tAsg (tCall (sp_is_plain c) [] E0 (tCons (tVar 1) (tCons (tVar 5) tNil))) (gName 7))
  (tIfS (tOr (tNot (tTru c.K (tCB (rIsi c.K) (tCons (tVar 7) (tCons (tC (.ty "bool")) tNil))))) (tOr (tTest (tOp (cNe c.K) (tVar 7) (tVar 6))) (tTest (tOp (cNe c.K) (tCall (sp_is_plain c) [] E0 (tCons (tVar 1) (tCons (tVar 5) tNil))) (tVar 6)))))
  (tRet (tC (.bl false)))
  tNext))))
  (tRet (tOp (cEq c.K) (tSl (bSl c.K) (tCall (sp_law_rows c) [] E0 (tCons (tVar 1) tNil)) tNoPart (tPart (tCB (kLen c.K) (tCons (tVar 3) tNil)))) (tVar 3))))))))
def sp_law_law (K : PySem.W.Frag) : Sp := fun vs H Q E => vs.length = 1 ∧ ∃ (a : Addr) (ns : List Int), vs = [.ref a] ∧ SqL K H a (ns.map V.int) ∧ ns.length ≤ 63 ∧ ∀ H', Q (.bl true) H'
theorem v_eqB2 {K : PySem.W.Frag} {H : Hp} {Q : VK} {a b : Bool} (k : Q (.bl (!decide (a = b))) H) : cNe K (.bl a) (.bl b) H Q := .inl ⟨rfl, by
  cases a <;> cases b <;> exact k⟩
theorem p_law {c : Cn} {mg : Str → Option Value} (T : Txt c mg) {vs : List V} {H : Hp} {Q : VK} {E : XK} (h : sp_law_law c.K vs H Q E) : t_law c { nx := fun _ H' => Q .non H', rt := Q } (start N_law vs) H := by
  obtain ⟨_, a, ns, rfl, hs, few, k⟩ := h
  unfold t_law
  repeat kaf_suf
  intro b dx hb hdx ndx
  repeat kaf_suf
  have kb : Keep Nil H (upd (upd H dx (.own b)) b (.ins c.cBook dx [])) := (Keep.alloc hdx).setN hb
  refine ⟨rfl, b, dx, rfl, upd_same, fun H1 M k1 B1 nB => ⟨rfl, ?_⟩⟩
  have nM : ∀ x, M x → H x = none := fun x h => keep_none kb (nB x h)
  have K1 : Keep Nil H H1 := fun x o _ h => k1 x o (fun z => by rw [z, hb] at h; cases h) (kb x o (fun z => z) h)
  clear k1 nB kb hb hdx
  have hide : ∀ {H1 H2 : Hp}, Keep Nil H H1 → Keep M H1 H2 → Keep Nil H H2 := fun k1 k2 x o _ h => k2 x o (fun z => by rw [nM x z] at h; cases h) (k1 x o (fun z => z) h)
  repeat kaf_suf
  refine ⟨rfl, a, ns, 1, rfl, seq_keep K1 hs, few, by decide, fun z => ?_⟩
  have z12 : 0 ≤ z % 12 ∧ z % 12 < 12 := ⟨Int.emod_nonneg _ (by decide), Int.emod_lt_of_pos _ (by decide)⟩
  repeat kaf_suf
  generalize z % 12 = w at z12 ⊢
  obtain ⟨wn, rfl⟩ := Int.eq_ofNat_of_zero_le z12.1
  refine ⟨rfl, b, a, M, _, _, ns, 2, 3 + wn, by rw [Int.natCast_add]; rfl, B1, seq_keep K1 hs, few, by omega, by decide, fun x _ => .inr (seq_keep K1 hs), fun H' k' => seq_keep (hide K1 k') hs, fun H2 f e l zs k2 B2 hl nl el zr fl zl => ?_⟩
  have K2 := hide K1 k2
  have gl : (([([], [])] : List Gm) ++ f).length ≤ 16 := by rw [List.length_append]; show 1 + f.length ≤ 16; omega
  generalize ([([], [])] : List Gm) ++ f = gs at B2 zr gl ⊢
  generalize ([0] : List Int) ++ e = ds at B2 ⊢
  clear k2 B1 K1
  repeat kaf_suf
  refine ⟨rfl, b, M, gs, ds, rfl, B2, by omega, fun H3 R k3 R3 => ?_⟩
  have B3 := B2.same k3
  have el3 := k3.get (fun z => z) el
  have K3 := K2.trans k3
  clear k3 B2 K2 el
  repeat kaf_suf
  refine .inl ⟨false, fun kn hkn => ?_⟩
  rw [if_neg (by simp)]
  have kk := Keep.alloc (M := Nil) (o := NdO c.P c.w kn []) hkn
  have N4 : NdAt c.P c.w (upd H3 kn (NdO c.P c.w kn [])) kn [] := ⟨upd_same, fun x h => nomatch h⟩
  have T4 : Tl c kn gs (upd H3 kn (NdO c.P c.w kn [])) := ⟨[], N4, Memo.nil⟩
  have B4 := B3.same kk
  have R4 := R3.same kk
  have el4 := kk.get (fun z => z) el3
  have K4 := K3.trans kk
  have nkn := B3.new hkn
  generalize upd H3 kn (NdO c.P c.w kn []) = H4 at N4 T4 B4 R4 el4 K4 ⊢
  clear kk hkn B3 el3 K3 R3
  have Bk : ∀ {H'}, Keep (fun x => x = kn) H4 H' → BookAt c H' b M gs ds := fun k => B4.nd N4 k nkn
  repeat kaf_suf
  refine for_list (xs := zs.map V.int) (fun i σ H' => ∃ (x5 x6 x7 : Option V), σ = [some (.ref a), some (.ref b), some (.ref l), some (.ref R), some (.ref kn), x5, x6, x7] ∧ Keep (fun x => x = kn) H4 H' ∧ Tl c kn gs H') ⟨_, _, _, rfl, Keep.refl, T4⟩ ?_ ?_ ?_
  · rintro i σ H' _ ⟨_, _, _, _, k5, _⟩
    exact SqL.of (T4.list el4 k5)
  · rintro i x σ H5 hi ⟨x5, x6, x7, rfl, k5, T5⟩
    rw [List.getElem?_map] at hi
    obtain ⟨z, hz, rfl⟩ := Option.map_eq_some_iff.mp hi
    obtain ⟨z0, z1⟩ := zr z (List.mem_of_getElem? hz)
    obtain ⟨g, rfl⟩ := Int.eq_ofNat_of_zero_le z0
    repeat kaf_suf
    refine ⟨rfl, R, kn, gs, g, rfl, T4.rows R4 k5, B4.ok, by omega, by omega, T5, fun H6 bb k6 T6 hbb => ?_⟩
    repeat kaf_suf
    refine ⟨rfl, b, M, gs, ds, g, rfl, Bk (k5.trans k6), by omega, by omega, fun H7 b2 k7 hb2 => ?_⟩
    obtain rfl : b2 = bb := Bool.eq_iff_iff.mpr (hb2.trans hbb.symm)
    repeat kaf_suf
    refine v_eqB2 ?_
    rw [decide_eq_true rfl]
    repeat kaf_suf
    refine ⟨rfl, b, M, gs, ds, g, rfl, Bk ((k5.trans k6).trans k7.weak), by omega, by omega, fun H8 b3 k8 hb3 => ?_⟩
    obtain rfl : b3 = b2 := Bool.eq_iff_iff.mpr (hb3.trans hbb.symm)
    repeat kaf_suf
    refine v_eqB2 ?_
    rw [decide_eq_true rfl]
    repeat kaf_suf
    exact ⟨_, _, _, rfl, (k5.trans k6).trans (k7.weak.trans k8.weak), (T6.same k7).same k8⟩
  · rintro σ H5 ⟨x5, x6, x7, rfl, k5, T5⟩
    repeat kaf_suf
    refine ⟨rfl, b, M, gs, ds, rfl, Bk k5, by omega, fun H6 R2 k6 R6 => ?_⟩
    obtain ⟨ks2, eR2, pk2⟩ := R6
    obtain ⟨ks1, eR1, pk1⟩ := (T4.rows R4 k5).same k6
    have l1 := Paired.length pk1
    have l2 := Paired.length pk2
    repeat kaf_suf
    refine v_slL eR2 ?_
    rw [show cutV (ks2.map V.ref) none (some ((ks1.map V.ref).length : Int)) = ks2.map V.ref from cutV_all (by rw [List.length_map, List.length_map, l1, l2])]
    intro p hp
    have kp := Keep.alloc (M := Nil) (o := .lst (ks2.map V.ref)) hp
    have Ra : RwAt (upd H6 p (.lst (ks2.map V.ref))) p gs := ⟨ks2, upd_same, paired_keep pk2 fun _ _ h => h.keep kp⟩
    have Rb := ((T4.rows R4 k5).same k6).same kp
    repeat kaf_suf
    refine v_eqD Ra.dp Rb.dp (dRws_sh _) (dRws_sh _) ?_
    rw [eqv_rws]
    repeat kaf_suf
    exact k _
theorem ok_law {c : Cn} {mg : Str → Option Value} {base : Heap} {f : Addr} {fd : FuncData} (T : Txt c mg) (F : Fun c.K "law" "law" s_law f fd) : FnOk c.P c.w c.K mg base CX0 68 f fd ["script"] (sp_law_law c.K) :=
  F.ok (k := 67) (N := N_law) sc_law (fun vs H Q E h => h.1) (fun cdv A outer s H vs Q E hr h => ⟨t_law c, by
  exact (pss_cons (ps_set (i := 1) sc_law.nd rfl (Or.inl rfl) (e_make0 (mak_Book T) hr (by decide) pass0 rfl))
  (pss_cons (ps_set (i := 2) sc_law.nd rfl (Or.inl rfl) (e_call (cal_law_games T) hr (by decide) pass0 rfl (pa_cons (pv 1) (pa_cons (pv 0) (pa_cons pe_int (pa_cons (pe_op o_add pe_int (pe_op o_mod (e_call (cal_law_cell T) hr (by decide) pass0 rfl (pa_cons (pv 0) (pa_cons pe_int pa_nil))) pe_int)) pa_nil))))))
  (pss_cons (ps_set (i := 3) sc_law.nd rfl (Or.inl rfl) (e_call (cal_law_rows T) hr (by decide) pass0 rfl (pa_cons (pv 1) pa_nil)))
  (pss_cons (ps_set (i := 4) sc_law.nd rfl (Or.inl rfl) pe_dnew)
  (pss_cons (ps_for PassesOwn.never rfl (pi_any (pv 2)) (pg_name (i := 5) sc_law.nd rfl (Or.inl rfl))
  (pss_cons (ps_set (i := 6) sc_law.nd rfl (Or.inl rfl) (e_call (cal_law_plain T) hr (by decide) pass0 rfl (pa_cons (pv 3) (pa_cons (pv 5) (pa_cons (pv 4) pa_nil)))))
  (pss_cons (ps_set (i := 7) sc_law.nd rfl (Or.inl rfl) (e_call (cal_is_plain T) hr (by decide) pass0 rfl (pa_cons (pv 1) (pa_cons (pv 5) pa_nil))))
  (pss_one (ps_if (PW.pt (pw_or (pt_not (p_tru (pe_callB k_isi (by rfl) T.n_isinstance (by decide +kernel) (pa_cons (pv 7) (pa_cons (pe_bltn rfl T.n_bool (by decide +kernel) rfl) pa_nil))))) (pw_or (pt_cmpR (o_ne (hu64 hr)) (pv 7) (pv 6) (nomark _)) (pw_or1 (pt_cmpR (o_ne (hu64 hr)) (e_call (cal_is_plain T) hr (by decide) pass0 rfl (pa_cons (pv 1) (pa_cons (pv 5) pa_nil))) (pv 6) (nomark _)))))) (pss_one (ps_ret pe_bl)) pss_nil)))))
  (pss_one (ps_ret (pe_cmpR (o_eq (hu64 hr)) (pe_slice s_sl (e_call (cal_law_rows T) hr (by decide) pass0 rfl (pa_cons (pv 1) pa_nil)) po_none (po_some (pe_callB k_len (by rfl) T.n_len (by decide +kernel) (pa_cons (pv 3) pa_nil)))) (pv 3) (nomark _))))))))), p_law T h⟩)
theorem all_mk {l : PySem.W.OpenLaw} {w : World} {K : PySem.W.Frag} {h : Heap} {mg : Str → Option Value} {fa : Addr} (X : K.In h) (G : h.Ns mainGlobals mg) (hfa : mg "law" = some (.ref fa))
    {aGameError aNoGame aBook : Addr}
    {k_SIDES : Addr} {nn_SIDES : Nat} {sl_SIDES : Array (Option Value)} {tk_SIDES_0 : _} {tk_SIDES_1 : _}
    {f_Book_need : Addr} {od_Book_need an_Book_need : Option Addr} {sl_Book_need : Array (Option Value)} {oc_Book_need kV_Book_need dc_Book_need pm_Book_need cd_Book_need ct_Book_need : Value}
    {f_Book_game : Addr} {od_Book_game an_Book_game : Option Addr} {sl_Book_game : Array (Option Value)} {oc_Book_game kV_Book_game dc_Book_game pm_Book_game cd_Book_game ct_Book_game : Value}
    {f_Book_init : Addr} {od_Book_init an_Book_init : Option Addr} {sl_Book_init : Array (Option Value)} {oc_Book_init kV_Book_init dc_Book_init pm_Book_init cd_Book_init ct_Book_init : Value}
    {f_Book_many : Addr} {od_Book_many an_Book_many : Option Addr} {sl_Book_many : Array (Option Value)} {oc_Book_many kV_Book_many dc_Book_many pm_Book_many cd_Book_many ct_Book_many : Value}
    {f_Book_depth : Addr} {od_Book_depth an_Book_depth : Option Addr} {sl_Book_depth : Array (Option Value)} {oc_Book_depth kV_Book_depth dc_Book_depth pm_Book_depth cd_Book_depth ct_Book_depth : Value}
    {f_Book_lefts : Addr} {od_Book_lefts an_Book_lefts : Option Addr} {sl_Book_lefts : Array (Option Value)} {oc_Book_lefts kV_Book_lefts dc_Book_lefts pm_Book_lefts cd_Book_lefts ct_Book_lefts : Value}
    {f_Book_rights : Addr} {od_Book_rights an_Book_rights : Option Addr} {sl_Book_rights : Array (Option Value)} {oc_Book_rights kV_Book_rights dc_Book_rights pm_Book_rights cd_Book_rights ct_Book_rights : Value}
    {f_reached : Addr} {od_reached an_reached : Option Addr} {sl_reached : Array (Option Value)} {oc_reached kV_reached dc_reached pm_reached cd_reached ct_reached : Value}
    {f_moves_by : Addr} {od_moves_by an_moves_by : Option Addr} {sl_moves_by : Array (Option Value)} {oc_moves_by kV_moves_by dc_moves_by pm_moves_by cd_moves_by ct_moves_by : Value}
    {f_pairs_by : Addr} {od_pairs_by an_pairs_by : Option Addr} {sl_pairs_by : Array (Option Value)} {oc_pairs_by kV_pairs_by dc_pairs_by pm_pairs_by cd_pairs_by ct_pairs_by : Value}
    {f_no_less : Addr} {od_no_less an_no_less : Option Addr} {sl_no_less : Array (Option Value)} {oc_no_less kV_no_less dc_no_less pm_no_less cd_no_less ct_no_less : Value}
    {f_moves_of : Addr} {od_moves_of an_moves_of : Option Addr} {sl_moves_of : Array (Option Value)} {oc_moves_of kV_moves_of dc_moves_of pm_moves_of cd_moves_of ct_moves_of : Value}
    {f_other_side : Addr} {od_other_side an_other_side : Option Addr} {sl_other_side : Array (Option Value)} {oc_other_side kV_other_side dc_other_side pm_other_side cd_other_side ct_other_side : Value}
    {f_is_beaten : Addr} {od_is_beaten an_is_beaten : Option Addr} {sl_is_beaten : Array (Option Value)} {oc_is_beaten kV_is_beaten dc_is_beaten pm_is_beaten cd_is_beaten ct_is_beaten : Value}
    {f_is_answer : Addr} {od_is_answer an_is_answer : Option Addr} {sl_is_answer : Array (Option Value)} {oc_is_answer kV_is_answer dc_is_answer pm_is_answer cd_is_answer ct_is_answer : Value}
    {f_beaten_step : Addr} {od_beaten_step an_beaten_step : Option Addr} {sl_beaten_step : Array (Option Value)} {oc_beaten_step kV_beaten_step dc_beaten_step pm_beaten_step cd_beaten_step ct_beaten_step : Value}
    {f_answered_step : Addr} {od_answered_step an_answered_step : Option Addr} {sl_answered_step : Array (Option Value)} {oc_answered_step kV_answered_step dc_answered_step pm_answered_step cd_answered_step ct_answered_step : Value}
    {f_positions : Addr} {od_positions an_positions : Option Addr} {sl_positions : Array (Option Value)} {oc_positions kV_positions dc_positions pm_positions cd_positions ct_positions : Value}
    {f_is_plain : Addr} {od_is_plain an_is_plain : Option Addr} {sl_is_plain : Array (Option Value)} {oc_is_plain kV_is_plain dc_is_plain pm_is_plain cd_is_plain ct_is_plain : Value}
    {f_law_cell : Addr} {od_law_cell an_law_cell : Option Addr} {sl_law_cell : Array (Option Value)} {oc_law_cell kV_law_cell dc_law_cell pm_law_cell cd_law_cell ct_law_cell : Value}
    {f_law_mixed : Addr} {od_law_mixed an_law_mixed : Option Addr} {sl_law_mixed : Array (Option Value)} {oc_law_mixed kV_law_mixed dc_law_mixed pm_law_mixed cd_law_mixed ct_law_mixed : Value}
    {f_law_games : Addr} {od_law_games an_law_games : Option Addr} {sl_law_games : Array (Option Value)} {oc_law_games kV_law_games dc_law_games pm_law_games cd_law_games ct_law_games : Value}
    {f_law_rows : Addr} {od_law_rows an_law_rows : Option Addr} {sl_law_rows : Array (Option Value)} {oc_law_rows kV_law_rows dc_law_rows pm_law_rows cd_law_rows ct_law_rows : Value}
    {f_law_loses : Addr} {od_law_loses an_law_loses : Option Addr} {sl_law_loses : Array (Option Value)} {oc_law_loses kV_law_loses dc_law_loses pm_law_loses cd_law_loses ct_law_loses : Value}
    {f_law_no_less : Addr} {od_law_no_less an_law_no_less : Option Addr} {sl_law_no_less : Array (Option Value)} {oc_law_no_less kV_law_no_less dc_law_no_less pm_law_no_less cd_law_no_less ct_law_no_less : Value}
    {f_law_positions : Addr} {od_law_positions an_law_positions : Option Addr} {sl_law_positions : Array (Option Value)} {oc_law_positions kV_law_positions dc_law_positions pm_law_positions cd_law_positions ct_law_positions : Value}
    {f_law_beaten : Addr} {od_law_beaten an_law_beaten : Option Addr} {sl_law_beaten : Array (Option Value)} {oc_law_beaten kV_law_beaten dc_law_beaten pm_law_beaten cd_law_beaten ct_law_beaten : Value}
    {f_law_answers : Addr} {od_law_answers an_law_answers : Option Addr} {sl_law_answers : Array (Option Value)} {oc_law_answers kV_law_answers dc_law_answers pm_law_answers cd_law_answers ct_law_answers : Value}
    {f_law_plain : Addr} {od_law_plain an_law_plain : Option Addr} {sl_law_plain : Array (Option Value)} {oc_law_plain kV_law_plain dc_law_plain pm_law_plain cd_law_plain ct_law_plain : Value}
    {f_behind_right : Addr} {od_behind_right an_behind_right : Option Addr} {sl_behind_right : Array (Option Value)} {oc_behind_right kV_behind_right dc_behind_right pm_behind_right cd_behind_right ct_behind_right : Value}
    {f_behind_left : Addr} {od_behind_left an_behind_left : Option Addr} {sl_behind_left : Array (Option Value)} {oc_behind_left kV_behind_left dc_behind_left pm_behind_left cd_behind_left ct_behind_left : Value}
    {f_pair_holds : Addr} {od_pair_holds an_pair_holds : Option Addr} {sl_pair_holds : Array (Option Value)} {oc_pair_holds kV_pair_holds dc_pair_holds pm_pair_holds cd_pair_holds ct_pair_holds : Value}
    {f_law : Addr} {od_law an_law : Option Addr} {sl_law : Array (Option Value)} {oc_law kV_law dc_law pm_law cd_law ct_law : Value}
    (a_GameError : PySem.W.nsIn K mainGlobals "GameError" = some (some (.ref aGameError)))
    (a_NoGame : PySem.W.nsIn K mainGlobals "NoGame" = some (some (.ref aNoGame)))
    (a_Book : PySem.W.nsIn K mainGlobals "Book" = some (some (.ref aBook)))
    (pg_Book : PySem.W.plainGet K aBook Str.empty = true)
    (hd_Book : PySem.W.hasDictIn K aBook = true)
    (po_Book : PySem.W.plainOver K aBook = true)
    (sa_Book : PySem.W.findIn K (.ref aBook) "__setattr__" = some (some (.builtin "object.__setattr__")))
    (mk_Book : PySem.W.makesIn K aBook = true)
    (kc_Book : PySem.W.keepIn K (.ref aBook) = true)
    (na_Book_depths : PySem.W.findIn K (.ref aBook) "depths" = some none)
    (na_Book_moves : PySem.W.findIn K (.ref aBook) "moves" = some none)
    (na_Book_numbers : PySem.W.findIn K (.ref aBook) "numbers" = some none)
    (n_bool : PySem.W.nsIn K mainGlobals "bool" = some none)
    (n_int : PySem.W.nsIn K mainGlobals "int" = some none)
    (n_isinstance : PySem.W.nsIn K mainGlobals "isinstance" = some none)
    (n_len : PySem.W.nsIn K mainGlobals "len" = some none)
    (n_list : PySem.W.nsIn K mainGlobals "list" = some none)
    (n_max : PySem.W.nsIn K mainGlobals "max" = some none)
    (n_min : PySem.W.nsIn K mainGlobals "min" = some none)
    (n_range : PySem.W.nsIn K mainGlobals "range" = some none)
    (n_set : PySem.W.nsIn K mainGlobals "set" = some none)
    (n_sorted : PySem.W.nsIn K mainGlobals "sorted" = some none)
    (n_tuple : PySem.W.nsIn K mainGlobals "tuple" = some none)
    (a_SIDES : PySem.W.nsIn K mainGlobals "SIDES" = some (some (.ref k_SIDES)))
    (l_SIDES : K.lookup k_SIDES = some ⟨.type "tuple", none, .seq #[.str "left" tk_SIDES_0, .str "right" tk_SIDES_1] nn_SIDES, sl_SIDES⟩)
    (a_Book_need : PySem.W.findIn K (.ref aBook) "need" = some (some (.ref f_Book_need)))
    (i_Book_need : PySem.W.isFn K (.ref f_Book_need) = true)
    (l_Book_need : K.lookup f_Book_need = some ⟨oc_Book_need, od_Book_need, .func (PySem.W.fnOf "need" "Book.need" (defArgs s_Book_need) (defBody s_Book_need) (defScope s_Book_need) .none kV_Book_need dc_Book_need pm_Book_need an_Book_need cd_Book_need ct_Book_need), sl_Book_need⟩)
    (c_Book_need : PySem.W.codeIn K cd_Book_need "Book.need" = true)
    (k_Book_need : PySem.W.keepIn K (.ref f_Book_need) = true)
    (a_Book_game : PySem.W.findIn K (.ref aBook) "game" = some (some (.ref f_Book_game)))
    (i_Book_game : PySem.W.isFn K (.ref f_Book_game) = true)
    (l_Book_game : K.lookup f_Book_game = some ⟨oc_Book_game, od_Book_game, .func (PySem.W.fnOf "game" "Book.game" (defArgs s_Book_game) (defBody s_Book_game) (defScope s_Book_game) .none kV_Book_game dc_Book_game pm_Book_game an_Book_game cd_Book_game ct_Book_game), sl_Book_game⟩)
    (c_Book_game : PySem.W.codeIn K cd_Book_game "Book.game" = true)
    (k_Book_game : PySem.W.keepIn K (.ref f_Book_game) = true)
    (a_Book_init : PySem.W.findIn K (.ref aBook) "__init__" = some (some (.ref f_Book_init)))
    (i_Book_init : PySem.W.isFn K (.ref f_Book_init) = true)
    (l_Book_init : K.lookup f_Book_init = some ⟨oc_Book_init, od_Book_init, .func (PySem.W.fnOf "__init__" "Book.__init__" (defArgs s_Book_init) (defBody s_Book_init) (defScope s_Book_init) .none kV_Book_init dc_Book_init pm_Book_init an_Book_init cd_Book_init ct_Book_init), sl_Book_init⟩)
    (c_Book_init : PySem.W.codeIn K cd_Book_init "Book.__init__" = true)
    (k_Book_init : PySem.W.keepIn K (.ref f_Book_init) = true)
    (a_Book_many : PySem.W.findIn K (.ref aBook) "many" = some (some (.ref f_Book_many)))
    (i_Book_many : PySem.W.isFn K (.ref f_Book_many) = true)
    (l_Book_many : K.lookup f_Book_many = some ⟨oc_Book_many, od_Book_many, .func (PySem.W.fnOf "many" "Book.many" (defArgs s_Book_many) (defBody s_Book_many) (defScope s_Book_many) .none kV_Book_many dc_Book_many pm_Book_many an_Book_many cd_Book_many ct_Book_many), sl_Book_many⟩)
    (c_Book_many : PySem.W.codeIn K cd_Book_many "Book.many" = true)
    (k_Book_many : PySem.W.keepIn K (.ref f_Book_many) = true)
    (a_Book_depth : PySem.W.findIn K (.ref aBook) "depth" = some (some (.ref f_Book_depth)))
    (i_Book_depth : PySem.W.isFn K (.ref f_Book_depth) = true)
    (l_Book_depth : K.lookup f_Book_depth = some ⟨oc_Book_depth, od_Book_depth, .func (PySem.W.fnOf "depth" "Book.depth" (defArgs s_Book_depth) (defBody s_Book_depth) (defScope s_Book_depth) .none kV_Book_depth dc_Book_depth pm_Book_depth an_Book_depth cd_Book_depth ct_Book_depth), sl_Book_depth⟩)
    (c_Book_depth : PySem.W.codeIn K cd_Book_depth "Book.depth" = true)
    (k_Book_depth : PySem.W.keepIn K (.ref f_Book_depth) = true)
    (a_Book_lefts : PySem.W.findIn K (.ref aBook) "lefts" = some (some (.ref f_Book_lefts)))
    (i_Book_lefts : PySem.W.isFn K (.ref f_Book_lefts) = true)
    (l_Book_lefts : K.lookup f_Book_lefts = some ⟨oc_Book_lefts, od_Book_lefts, .func (PySem.W.fnOf "lefts" "Book.lefts" (defArgs s_Book_lefts) (defBody s_Book_lefts) (defScope s_Book_lefts) .none kV_Book_lefts dc_Book_lefts pm_Book_lefts an_Book_lefts cd_Book_lefts ct_Book_lefts), sl_Book_lefts⟩)
    (c_Book_lefts : PySem.W.codeIn K cd_Book_lefts "Book.lefts" = true)
    (k_Book_lefts : PySem.W.keepIn K (.ref f_Book_lefts) = true)
    (a_Book_rights : PySem.W.findIn K (.ref aBook) "rights" = some (some (.ref f_Book_rights)))
    (i_Book_rights : PySem.W.isFn K (.ref f_Book_rights) = true)
    (l_Book_rights : K.lookup f_Book_rights = some ⟨oc_Book_rights, od_Book_rights, .func (PySem.W.fnOf "rights" "Book.rights" (defArgs s_Book_rights) (defBody s_Book_rights) (defScope s_Book_rights) .none kV_Book_rights dc_Book_rights pm_Book_rights an_Book_rights cd_Book_rights ct_Book_rights), sl_Book_rights⟩)
    (c_Book_rights : PySem.W.codeIn K cd_Book_rights "Book.rights" = true)
    (k_Book_rights : PySem.W.keepIn K (.ref f_Book_rights) = true)
    (a_reached : PySem.W.nsIn K mainGlobals "reached" = some (some (.ref f_reached)))
    (l_reached : K.lookup f_reached = some ⟨oc_reached, od_reached, .func (PySem.W.fnOf "reached" "reached" (defArgs s_reached) (defBody s_reached) (defScope s_reached) .none kV_reached dc_reached pm_reached an_reached cd_reached ct_reached), sl_reached⟩)
    (c_reached : PySem.W.codeIn K cd_reached "reached" = true)
    (k_reached : PySem.W.keepIn K (.ref f_reached) = true)
    (a_moves_by : PySem.W.nsIn K mainGlobals "moves_by" = some (some (.ref f_moves_by)))
    (l_moves_by : K.lookup f_moves_by = some ⟨oc_moves_by, od_moves_by, .func (PySem.W.fnOf "moves_by" "moves_by" (defArgs s_moves_by) (defBody s_moves_by) (defScope s_moves_by) .none kV_moves_by dc_moves_by pm_moves_by an_moves_by cd_moves_by ct_moves_by), sl_moves_by⟩)
    (c_moves_by : PySem.W.codeIn K cd_moves_by "moves_by" = true)
    (k_moves_by : PySem.W.keepIn K (.ref f_moves_by) = true)
    (a_pairs_by : PySem.W.nsIn K mainGlobals "pairs_by" = some (some (.ref f_pairs_by)))
    (l_pairs_by : K.lookup f_pairs_by = some ⟨oc_pairs_by, od_pairs_by, .func (PySem.W.fnOf "pairs_by" "pairs_by" (defArgs s_pairs_by) (defBody s_pairs_by) (defScope s_pairs_by) .none kV_pairs_by dc_pairs_by pm_pairs_by an_pairs_by cd_pairs_by ct_pairs_by), sl_pairs_by⟩)
    (c_pairs_by : PySem.W.codeIn K cd_pairs_by "pairs_by" = true)
    (k_pairs_by : PySem.W.keepIn K (.ref f_pairs_by) = true)
    (a_no_less : PySem.W.nsIn K mainGlobals "no_less" = some (some (.ref f_no_less)))
    (l_no_less : K.lookup f_no_less = some ⟨oc_no_less, od_no_less, .func (PySem.W.fnOf "no_less" "no_less" (defArgs s_no_less) (defBody s_no_less) (defScope s_no_less) .none kV_no_less dc_no_less pm_no_less an_no_less cd_no_less ct_no_less), sl_no_less⟩)
    (c_no_less : PySem.W.codeIn K cd_no_less "no_less" = true)
    (k_no_less : PySem.W.keepIn K (.ref f_no_less) = true)
    (a_moves_of : PySem.W.nsIn K mainGlobals "moves_of" = some (some (.ref f_moves_of)))
    (l_moves_of : K.lookup f_moves_of = some ⟨oc_moves_of, od_moves_of, .func (PySem.W.fnOf "moves_of" "moves_of" (defArgs s_moves_of) (defBody s_moves_of) (defScope s_moves_of) .none kV_moves_of dc_moves_of pm_moves_of an_moves_of cd_moves_of ct_moves_of), sl_moves_of⟩)
    (c_moves_of : PySem.W.codeIn K cd_moves_of "moves_of" = true)
    (k_moves_of : PySem.W.keepIn K (.ref f_moves_of) = true)
    (a_other_side : PySem.W.nsIn K mainGlobals "other_side" = some (some (.ref f_other_side)))
    (l_other_side : K.lookup f_other_side = some ⟨oc_other_side, od_other_side, .func (PySem.W.fnOf "other_side" "other_side" (defArgs s_other_side) (defBody s_other_side) (defScope s_other_side) .none kV_other_side dc_other_side pm_other_side an_other_side cd_other_side ct_other_side), sl_other_side⟩)
    (c_other_side : PySem.W.codeIn K cd_other_side "other_side" = true)
    (k_other_side : PySem.W.keepIn K (.ref f_other_side) = true)
    (a_is_beaten : PySem.W.nsIn K mainGlobals "is_beaten" = some (some (.ref f_is_beaten)))
    (l_is_beaten : K.lookup f_is_beaten = some ⟨oc_is_beaten, od_is_beaten, .func (PySem.W.fnOf "is_beaten" "is_beaten" (defArgs s_is_beaten) (defBody s_is_beaten) (defScope s_is_beaten) .none kV_is_beaten dc_is_beaten pm_is_beaten an_is_beaten cd_is_beaten ct_is_beaten), sl_is_beaten⟩)
    (c_is_beaten : PySem.W.codeIn K cd_is_beaten "is_beaten" = true)
    (k_is_beaten : PySem.W.keepIn K (.ref f_is_beaten) = true)
    (a_is_answer : PySem.W.nsIn K mainGlobals "is_answer" = some (some (.ref f_is_answer)))
    (l_is_answer : K.lookup f_is_answer = some ⟨oc_is_answer, od_is_answer, .func (PySem.W.fnOf "is_answer" "is_answer" (defArgs s_is_answer) (defBody s_is_answer) (defScope s_is_answer) .none kV_is_answer dc_is_answer pm_is_answer an_is_answer cd_is_answer ct_is_answer), sl_is_answer⟩)
    (c_is_answer : PySem.W.codeIn K cd_is_answer "is_answer" = true)
    (k_is_answer : PySem.W.keepIn K (.ref f_is_answer) = true)
    (a_beaten_step : PySem.W.nsIn K mainGlobals "beaten_step" = some (some (.ref f_beaten_step)))
    (l_beaten_step : K.lookup f_beaten_step = some ⟨oc_beaten_step, od_beaten_step, .func (PySem.W.fnOf "beaten_step" "beaten_step" (defArgs s_beaten_step) (defBody s_beaten_step) (defScope s_beaten_step) .none kV_beaten_step dc_beaten_step pm_beaten_step an_beaten_step cd_beaten_step ct_beaten_step), sl_beaten_step⟩)
    (c_beaten_step : PySem.W.codeIn K cd_beaten_step "beaten_step" = true)
    (k_beaten_step : PySem.W.keepIn K (.ref f_beaten_step) = true)
    (a_answered_step : PySem.W.nsIn K mainGlobals "answered_step" = some (some (.ref f_answered_step)))
    (l_answered_step : K.lookup f_answered_step = some ⟨oc_answered_step, od_answered_step, .func (PySem.W.fnOf "answered_step" "answered_step" (defArgs s_answered_step) (defBody s_answered_step) (defScope s_answered_step) .none kV_answered_step dc_answered_step pm_answered_step an_answered_step cd_answered_step ct_answered_step), sl_answered_step⟩)
    (c_answered_step : PySem.W.codeIn K cd_answered_step "answered_step" = true)
    (k_answered_step : PySem.W.keepIn K (.ref f_answered_step) = true)
    (a_positions : PySem.W.nsIn K mainGlobals "positions" = some (some (.ref f_positions)))
    (l_positions : K.lookup f_positions = some ⟨oc_positions, od_positions, .func (PySem.W.fnOf "positions" "positions" (defArgs s_positions) (defBody s_positions) (defScope s_positions) .none kV_positions dc_positions pm_positions an_positions cd_positions ct_positions), sl_positions⟩)
    (c_positions : PySem.W.codeIn K cd_positions "positions" = true)
    (k_positions : PySem.W.keepIn K (.ref f_positions) = true)
    (a_is_plain : PySem.W.nsIn K mainGlobals "is_plain" = some (some (.ref f_is_plain)))
    (l_is_plain : K.lookup f_is_plain = some ⟨oc_is_plain, od_is_plain, .func (PySem.W.fnOf "is_plain" "is_plain" (defArgs s_is_plain) (defBody s_is_plain) (defScope s_is_plain) .none kV_is_plain dc_is_plain pm_is_plain an_is_plain cd_is_plain ct_is_plain), sl_is_plain⟩)
    (c_is_plain : PySem.W.codeIn K cd_is_plain "is_plain" = true)
    (k_is_plain : PySem.W.keepIn K (.ref f_is_plain) = true)
    (a_law_cell : PySem.W.nsIn K mainGlobals "_law_cell" = some (some (.ref f_law_cell)))
    (l_law_cell : K.lookup f_law_cell = some ⟨oc_law_cell, od_law_cell, .func (PySem.W.fnOf "_law_cell" "_law_cell" (defArgs s_law_cell) (defBody s_law_cell) (defScope s_law_cell) .none kV_law_cell dc_law_cell pm_law_cell an_law_cell cd_law_cell ct_law_cell), sl_law_cell⟩)
    (c_law_cell : PySem.W.codeIn K cd_law_cell "_law_cell" = true)
    (k_law_cell : PySem.W.keepIn K (.ref f_law_cell) = true)
    (a_law_mixed : PySem.W.nsIn K mainGlobals "_law_mixed" = some (some (.ref f_law_mixed)))
    (l_law_mixed : K.lookup f_law_mixed = some ⟨oc_law_mixed, od_law_mixed, .func (PySem.W.fnOf "_law_mixed" "_law_mixed" (defArgs s_law_mixed) (defBody s_law_mixed) (defScope s_law_mixed) .none kV_law_mixed dc_law_mixed pm_law_mixed an_law_mixed cd_law_mixed ct_law_mixed), sl_law_mixed⟩)
    (c_law_mixed : PySem.W.codeIn K cd_law_mixed "_law_mixed" = true)
    (k_law_mixed : PySem.W.keepIn K (.ref f_law_mixed) = true)
    (a_law_games : PySem.W.nsIn K mainGlobals "_law_games" = some (some (.ref f_law_games)))
    (l_law_games : K.lookup f_law_games = some ⟨oc_law_games, od_law_games, .func (PySem.W.fnOf "_law_games" "_law_games" (defArgs s_law_games) (defBody s_law_games) (defScope s_law_games) .none kV_law_games dc_law_games pm_law_games an_law_games cd_law_games ct_law_games), sl_law_games⟩)
    (c_law_games : PySem.W.codeIn K cd_law_games "_law_games" = true)
    (k_law_games : PySem.W.keepIn K (.ref f_law_games) = true)
    (a_law_rows : PySem.W.nsIn K mainGlobals "_law_rows" = some (some (.ref f_law_rows)))
    (l_law_rows : K.lookup f_law_rows = some ⟨oc_law_rows, od_law_rows, .func (PySem.W.fnOf "_law_rows" "_law_rows" (defArgs s_law_rows) (defBody s_law_rows) (defScope s_law_rows) .none kV_law_rows dc_law_rows pm_law_rows an_law_rows cd_law_rows ct_law_rows), sl_law_rows⟩)
    (c_law_rows : PySem.W.codeIn K cd_law_rows "_law_rows" = true)
    (k_law_rows : PySem.W.keepIn K (.ref f_law_rows) = true)
    (a_law_loses : PySem.W.nsIn K mainGlobals "_law_loses" = some (some (.ref f_law_loses)))
    (l_law_loses : K.lookup f_law_loses = some ⟨oc_law_loses, od_law_loses, .func (PySem.W.fnOf "_law_loses" "_law_loses" (defArgs s_law_loses) (defBody s_law_loses) (defScope s_law_loses) .none kV_law_loses dc_law_loses pm_law_loses an_law_loses cd_law_loses ct_law_loses), sl_law_loses⟩)
    (c_law_loses : PySem.W.codeIn K cd_law_loses "_law_loses" = true)
    (k_law_loses : PySem.W.keepIn K (.ref f_law_loses) = true)
    (a_law_no_less : PySem.W.nsIn K mainGlobals "_law_no_less" = some (some (.ref f_law_no_less)))
    (l_law_no_less : K.lookup f_law_no_less = some ⟨oc_law_no_less, od_law_no_less, .func (PySem.W.fnOf "_law_no_less" "_law_no_less" (defArgs s_law_no_less) (defBody s_law_no_less) (defScope s_law_no_less) .none kV_law_no_less dc_law_no_less pm_law_no_less an_law_no_less cd_law_no_less ct_law_no_less), sl_law_no_less⟩)
    (c_law_no_less : PySem.W.codeIn K cd_law_no_less "_law_no_less" = true)
    (k_law_no_less : PySem.W.keepIn K (.ref f_law_no_less) = true)
    (a_law_positions : PySem.W.nsIn K mainGlobals "_law_positions" = some (some (.ref f_law_positions)))
    (l_law_positions : K.lookup f_law_positions = some ⟨oc_law_positions, od_law_positions, .func (PySem.W.fnOf "_law_positions" "_law_positions" (defArgs s_law_positions) (defBody s_law_positions) (defScope s_law_positions) .none kV_law_positions dc_law_positions pm_law_positions an_law_positions cd_law_positions ct_law_positions), sl_law_positions⟩)
    (c_law_positions : PySem.W.codeIn K cd_law_positions "_law_positions" = true)
    (k_law_positions : PySem.W.keepIn K (.ref f_law_positions) = true)
    (a_law_beaten : PySem.W.nsIn K mainGlobals "_law_beaten" = some (some (.ref f_law_beaten)))
    (l_law_beaten : K.lookup f_law_beaten = some ⟨oc_law_beaten, od_law_beaten, .func (PySem.W.fnOf "_law_beaten" "_law_beaten" (defArgs s_law_beaten) (defBody s_law_beaten) (defScope s_law_beaten) .none kV_law_beaten dc_law_beaten pm_law_beaten an_law_beaten cd_law_beaten ct_law_beaten), sl_law_beaten⟩)
    (c_law_beaten : PySem.W.codeIn K cd_law_beaten "_law_beaten" = true)
    (k_law_beaten : PySem.W.keepIn K (.ref f_law_beaten) = true)
    (a_law_answers : PySem.W.nsIn K mainGlobals "_law_answers" = some (some (.ref f_law_answers)))
    (l_law_answers : K.lookup f_law_answers = some ⟨oc_law_answers, od_law_answers, .func (PySem.W.fnOf "_law_answers" "_law_answers" (defArgs s_law_answers) (defBody s_law_answers) (defScope s_law_answers) .none kV_law_answers dc_law_answers pm_law_answers an_law_answers cd_law_answers ct_law_answers), sl_law_answers⟩)
    (c_law_answers : PySem.W.codeIn K cd_law_answers "_law_answers" = true)
    (k_law_answers : PySem.W.keepIn K (.ref f_law_answers) = true)
    (a_law_plain : PySem.W.nsIn K mainGlobals "_law_plain" = some (some (.ref f_law_plain)))
    (l_law_plain : K.lookup f_law_plain = some ⟨oc_law_plain, od_law_plain, .func (PySem.W.fnOf "_law_plain" "_law_plain" (defArgs s_law_plain) (defBody s_law_plain) (defScope s_law_plain) .none kV_law_plain dc_law_plain pm_law_plain an_law_plain cd_law_plain ct_law_plain), sl_law_plain⟩)
    (c_law_plain : PySem.W.codeIn K cd_law_plain "_law_plain" = true)
    (k_law_plain : PySem.W.keepIn K (.ref f_law_plain) = true)
    (a_behind_right : PySem.W.nsIn K mainGlobals "behind_right" = some (some (.ref f_behind_right)))
    (l_behind_right : K.lookup f_behind_right = some ⟨oc_behind_right, od_behind_right, .func (PySem.W.fnOf "behind_right" "behind_right" (defArgs s_behind_right) (defBody s_behind_right) (defScope s_behind_right) .none kV_behind_right dc_behind_right pm_behind_right an_behind_right cd_behind_right ct_behind_right), sl_behind_right⟩)
    (c_behind_right : PySem.W.codeIn K cd_behind_right "behind_right" = true)
    (k_behind_right : PySem.W.keepIn K (.ref f_behind_right) = true)
    (a_behind_left : PySem.W.nsIn K mainGlobals "behind_left" = some (some (.ref f_behind_left)))
    (l_behind_left : K.lookup f_behind_left = some ⟨oc_behind_left, od_behind_left, .func (PySem.W.fnOf "behind_left" "behind_left" (defArgs s_behind_left) (defBody s_behind_left) (defScope s_behind_left) .none kV_behind_left dc_behind_left pm_behind_left an_behind_left cd_behind_left ct_behind_left), sl_behind_left⟩)
    (c_behind_left : PySem.W.codeIn K cd_behind_left "behind_left" = true)
    (k_behind_left : PySem.W.keepIn K (.ref f_behind_left) = true)
    (a_pair_holds : PySem.W.nsIn K mainGlobals "pair_holds" = some (some (.ref f_pair_holds)))
    (l_pair_holds : K.lookup f_pair_holds = some ⟨oc_pair_holds, od_pair_holds, .func (PySem.W.fnOf "pair_holds" "pair_holds" (defArgs s_pair_holds) (defBody s_pair_holds) (defScope s_pair_holds) .none kV_pair_holds dc_pair_holds pm_pair_holds an_pair_holds cd_pair_holds ct_pair_holds), sl_pair_holds⟩)
    (c_pair_holds : PySem.W.codeIn K cd_pair_holds "pair_holds" = true)
    (k_pair_holds : PySem.W.keepIn K (.ref f_pair_holds) = true)
    (a_law : PySem.W.nsIn K mainGlobals "law" = some (some (.ref f_law)))
    (l_law : K.lookup f_law = some ⟨oc_law, od_law, .func (PySem.W.fnOf "law" "law" (defArgs s_law) (defBody s_law) (defScope s_law) .none kV_law dc_law pm_law an_law cd_law ct_law), sl_law⟩)
    (c_law : PySem.W.codeIn K cd_law "law" = true)
    (k_law : PySem.W.keepIn K (.ref f_law) = true)
    : ∃ fd : FuncData, (∀ (s : Shared) (v : Value), BindsTo s fd ⟨[v], []⟩ [("script", v)]) ∧ ∀ base : Heap, K.In base → base.Ns mainGlobals mg → FnOk l.prog w K mg base CX0 68 fa fd ["script"] (sp_law_law K) := by
  have e := hfa.symm.trans (PySem.W.mg_of X G a_law)
  cases e
  let c : Cn := { P := l.prog, w := w, K := K, cGameError := aGameError, cNoGame := aNoGame, cBook := aBook, k_SIDES := k_SIDES }
  have T : Txt c mg := { n_bool := PySem.W.mg_none_of X G n_bool, n_int := PySem.W.mg_none_of X G n_int, n_isinstance := PySem.W.mg_none_of X G n_isinstance, n_len := PySem.W.mg_none_of X G n_len, n_list := PySem.W.mg_none_of X G n_list, n_max := PySem.W.mg_none_of X G n_max, n_min := PySem.W.mg_none_of X G n_min, n_range := PySem.W.mg_none_of X G n_range, n_set := PySem.W.mg_none_of X G n_set, n_sorted := PySem.W.mg_none_of X G n_sorted, n_tuple := PySem.W.mg_none_of X G n_tuple, g_GameError := PySem.W.mg_of X G a_GameError, g_NoGame := PySem.W.mg_of X G a_NoGame, g_Book := PySem.W.mg_of X G a_Book, t_SIDES := ⟨PySem.W.mg_of X G a_SIDES, fun _ => .inr ⟨_, _, _, l_SIDES, rfl, rfl, by rw [sizeLine_eq]; exact Nat.le_of_ble_eq_true rfl, (.cons ⟨_, rfl⟩ (.cons ⟨_, rfl⟩ .nil))⟩, _, l_SIDES, rfl, rfl⟩, cl_Book := ⟨pg_Book, hd_Book, po_Book, sa_Book⟩, na_Book_depths := na_Book_depths, na_Book_moves := na_Book_moves, na_Book_numbers := na_Book_numbers, F_Book_need := ⟨_, _, fun_mk (st := s_Book_need) l_Book_need c_Book_need k_Book_need, ⟨a_Book_need, i_Book_need, k_Book_need⟩, ((fun_mk (st := s_Book_need) l_Book_need c_Book_need k_Book_need).binds (ps := ["self", "g"]) fun _ _ _ _ _ _ us hl => match us, hl with | [_, _], _ => rfl)⟩, F_Book_game := ⟨_, _, fun_mk (st := s_Book_game) l_Book_game c_Book_game k_Book_game, ⟨a_Book_game, i_Book_game, k_Book_game⟩, ((fun_mk (st := s_Book_game) l_Book_game c_Book_game k_Book_game).binds (ps := ["self", "lefts", "rights"]) fun _ _ _ _ _ _ us hl => match us, hl with | [_, _, _], _ => rfl)⟩, F_Book_init := ⟨_, _, fun_mk (st := s_Book_init) l_Book_init c_Book_init k_Book_init, ⟨mk_Book, a_Book_init, i_Book_init, kc_Book⟩, ((fun_mk (st := s_Book_init) l_Book_init c_Book_init k_Book_init).binds (ps := ["self"]) fun _ _ _ _ _ _ us hl => match us, hl with | [_], _ => rfl)⟩, F_Book_many := ⟨_, _, fun_mk (st := s_Book_many) l_Book_many c_Book_many k_Book_many, ⟨a_Book_many, i_Book_many, k_Book_many⟩, ((fun_mk (st := s_Book_many) l_Book_many c_Book_many k_Book_many).binds (ps := ["self"]) fun _ _ _ _ _ _ us hl => match us, hl with | [_], _ => rfl)⟩, F_Book_depth := ⟨_, _, fun_mk (st := s_Book_depth) l_Book_depth c_Book_depth k_Book_depth, ⟨a_Book_depth, i_Book_depth, k_Book_depth⟩, ((fun_mk (st := s_Book_depth) l_Book_depth c_Book_depth k_Book_depth).binds (ps := ["self", "g"]) fun _ _ _ _ _ _ us hl => match us, hl with | [_, _], _ => rfl)⟩, F_Book_lefts := ⟨_, _, fun_mk (st := s_Book_lefts) l_Book_lefts c_Book_lefts k_Book_lefts, ⟨a_Book_lefts, i_Book_lefts, k_Book_lefts⟩, ((fun_mk (st := s_Book_lefts) l_Book_lefts c_Book_lefts k_Book_lefts).binds (ps := ["self", "g"]) fun _ _ _ _ _ _ us hl => match us, hl with | [_, _], _ => rfl)⟩, F_Book_rights := ⟨_, _, fun_mk (st := s_Book_rights) l_Book_rights c_Book_rights k_Book_rights, ⟨a_Book_rights, i_Book_rights, k_Book_rights⟩, ((fun_mk (st := s_Book_rights) l_Book_rights c_Book_rights k_Book_rights).binds (ps := ["self", "g"]) fun _ _ _ _ _ _ us hl => match us, hl with | [_, _], _ => rfl)⟩, F_reached := ⟨_, _, fun_mk (st := s_reached) l_reached c_reached k_reached, PySem.W.mg_of X G a_reached, ((fun_mk (st := s_reached) l_reached c_reached k_reached).binds (ps := ["book", "g"]) fun _ _ _ _ _ _ us hl => match us, hl with | [_, _], _ => rfl)⟩, F_moves_by := ⟨_, _, fun_mk (st := s_moves_by) l_moves_by c_moves_by k_moves_by, PySem.W.mg_of X G a_moves_by, ((fun_mk (st := s_moves_by) l_moves_by c_moves_by k_moves_by).binds (ps := ["book", "games"]) fun _ _ _ _ _ _ us hl => match us, hl with | [_, _], _ => rfl)⟩, F_pairs_by := ⟨_, _, fun_mk (st := s_pairs_by) l_pairs_by c_pairs_by k_pairs_by, PySem.W.mg_of X G a_pairs_by, ((fun_mk (st := s_pairs_by) l_pairs_by c_pairs_by k_pairs_by).binds (ps := ["book", "g", "h"]) fun _ _ _ _ _ _ us hl => match us, hl with | [_, _, _], _ => rfl)⟩, F_no_less := ⟨_, _, fun_mk (st := s_no_less) l_no_less c_no_less k_no_less, PySem.W.mg_of X G a_no_less, ((fun_mk (st := s_no_less) l_no_less c_no_less k_no_less).binds (ps := ["book", "g", "h"]) fun _ _ _ _ _ _ us hl => match us, hl with | [_, _, _], _ => rfl)⟩, F_moves_of := ⟨_, _, fun_mk (st := s_moves_of) l_moves_of c_moves_of k_moves_of, PySem.W.mg_of X G a_moves_of, ((fun_mk (st := s_moves_of) l_moves_of c_moves_of k_moves_of).binds (ps := ["book", "g", "side"]) fun _ _ _ _ _ _ us hl => match us, hl with | [_, _, _], _ => rfl)⟩, F_other_side := ⟨_, _, fun_mk (st := s_other_side) l_other_side c_other_side k_other_side, PySem.W.mg_of X G a_other_side, ((fun_mk (st := s_other_side) l_other_side c_other_side k_other_side).binds (ps := ["side"]) fun _ _ _ _ _ _ us hl => match us, hl with | [_], _ => rfl)⟩, F_is_beaten := ⟨_, _, fun_mk (st := s_is_beaten) l_is_beaten c_is_beaten k_is_beaten, PySem.W.mg_of X G a_is_beaten, ((fun_mk (st := s_is_beaten) l_is_beaten c_is_beaten k_is_beaten).binds (ps := ["book", "side", "move", "by"]) fun _ _ _ _ _ _ us hl => match us, hl with | [_, _, _, _], _ => rfl)⟩, F_is_answer := ⟨_, _, fun_mk (st := s_is_answer) l_is_answer c_is_answer k_is_answer, PySem.W.mg_of X G a_is_answer, ((fun_mk (st := s_is_answer) l_is_answer c_is_answer k_is_answer).binds (ps := ["book", "side", "g", "a"]) fun _ _ _ _ _ _ us hl => match us, hl with | [_, _, _, _], _ => rfl)⟩, F_beaten_step := ⟨_, _, fun_mk (st := s_beaten_step) l_beaten_step c_beaten_step k_beaten_step, PySem.W.mg_of X G a_beaten_step, ((fun_mk (st := s_beaten_step) l_beaten_step c_beaten_step k_beaten_step).binds (ps := ["book", "g"]) fun _ _ _ _ _ _ us hl => match us, hl with | [_, _], _ => rfl)⟩, F_answered_step := ⟨_, _, fun_mk (st := s_answered_step) l_answered_step c_answered_step k_answered_step, PySem.W.mg_of X G a_answered_step, ((fun_mk (st := s_answered_step) l_answered_step c_answered_step k_answered_step).binds (ps := ["book", "g"]) fun _ _ _ _ _ _ us hl => match us, hl with | [_, _], _ => rfl)⟩, F_positions := ⟨_, _, fun_mk (st := s_positions) l_positions c_positions k_positions, PySem.W.mg_of X G a_positions, ((fun_mk (st := s_positions) l_positions c_positions k_positions).binds (ps := ["book", "g"]) fun _ _ _ _ _ _ us hl => match us, hl with | [_, _], _ => rfl)⟩, F_is_plain := ⟨_, _, fun_mk (st := s_is_plain) l_is_plain c_is_plain k_is_plain, PySem.W.mg_of X G a_is_plain, ((fun_mk (st := s_is_plain) l_is_plain c_is_plain k_is_plain).binds (ps := ["book", "g"]) fun _ _ _ _ _ _ us hl => match us, hl with | [_, _], _ => rfl)⟩, F_law_cell := ⟨_, _, fun_mk (st := s_law_cell) l_law_cell c_law_cell k_law_cell, PySem.W.mg_of X G a_law_cell, ((fun_mk (st := s_law_cell) l_law_cell c_law_cell k_law_cell).binds (ps := ["script", "k"]) fun _ _ _ _ _ _ us hl => match us, hl with | [_, _], _ => rfl)⟩, F_law_mixed := ⟨_, _, fun_mk (st := s_law_mixed) l_law_mixed c_law_mixed k_law_mixed, PySem.W.mg_of X G a_law_mixed, ((fun_mk (st := s_law_mixed) l_law_mixed c_law_mixed k_law_mixed).binds (ps := ["cell", "k"]) fun _ _ _ _ _ _ us hl => match us, hl with | [_, _], _ => rfl)⟩, F_law_games := ⟨_, _, fun_mk (st := s_law_games) l_law_games c_law_games k_law_games, PySem.W.mg_of X G a_law_games, ((fun_mk (st := s_law_games) l_law_games c_law_games k_law_games).binds (ps := ["book", "script", "start", "many"]) fun _ _ _ _ _ _ us hl => match us, hl with | [_, _, _, _], _ => rfl)⟩, F_law_rows := ⟨_, _, fun_mk (st := s_law_rows) l_law_rows c_law_rows k_law_rows, PySem.W.mg_of X G a_law_rows, ((fun_mk (st := s_law_rows) l_law_rows c_law_rows k_law_rows).binds (ps := ["book"]) fun _ _ _ _ _ _ us hl => match us, hl with | [_], _ => rfl)⟩, F_law_loses := ⟨_, _, fun_mk (st := s_law_loses) l_law_loses c_law_loses k_law_loses, PySem.W.mg_of X G a_law_loses, ((fun_mk (st := s_law_loses) l_law_loses c_law_loses k_law_loses).binds (ps := ["rows", "g", "h", "right", "told"]) fun _ _ _ _ _ _ us hl => match us, hl with | [_, _, _, _, _], _ => rfl)⟩, F_law_no_less := ⟨_, _, fun_mk (st := s_law_no_less) l_law_no_less c_law_no_less k_law_no_less, PySem.W.mg_of X G a_law_no_less, ((fun_mk (st := s_law_no_less) l_law_no_less c_law_no_less k_law_no_less).binds (ps := ["rows", "g", "h", "told"]) fun _ _ _ _ _ _ us hl => match us, hl with | [_, _, _, _], _ => rfl)⟩, F_law_positions := ⟨_, _, fun_mk (st := s_law_positions) l_law_positions c_law_positions k_law_positions, PySem.W.mg_of X G a_law_positions, ((fun_mk (st := s_law_positions) l_law_positions c_law_positions k_law_positions).binds (ps := ["rows", "g"]) fun _ _ _ _ _ _ us hl => match us, hl with | [_, _], _ => rfl)⟩, F_law_beaten := ⟨_, _, fun_mk (st := s_law_beaten) l_law_beaten c_law_beaten k_law_beaten, PySem.W.mg_of X G a_law_beaten, ((fun_mk (st := s_law_beaten) l_law_beaten c_law_beaten k_law_beaten).binds (ps := ["rows", "g", "side", "move", "told"]) fun _ _ _ _ _ _ us hl => match us, hl with | [_, _, _, _, _], _ => rfl)⟩, F_law_answers := ⟨_, _, fun_mk (st := s_law_answers) l_law_answers c_law_answers k_law_answers, PySem.W.mg_of X G a_law_answers, ((fun_mk (st := s_law_answers) l_law_answers c_law_answers k_law_answers).binds (ps := ["rows", "g", "side", "move", "told"]) fun _ _ _ _ _ _ us hl => match us, hl with | [_, _, _, _, _], _ => rfl)⟩, F_law_plain := ⟨_, _, fun_mk (st := s_law_plain) l_law_plain c_law_plain k_law_plain, PySem.W.mg_of X G a_law_plain, ((fun_mk (st := s_law_plain) l_law_plain c_law_plain k_law_plain).binds (ps := ["rows", "g", "told"]) fun _ _ _ _ _ _ us hl => match us, hl with | [_, _, _], _ => rfl)⟩, F_behind_right := ⟨_, _, fun_mk (st := s_behind_right) l_behind_right c_behind_right k_behind_right, PySem.W.mg_of X G a_behind_right, ((fun_mk (st := s_behind_right) l_behind_right c_behind_right k_behind_right).binds (ps := ["moves", "known", "r", "y"]) fun _ _ _ _ _ _ us hl => match us, hl with | [_, _, _, _], _ => rfl)⟩, F_behind_left := ⟨_, _, fun_mk (st := s_behind_left) l_behind_left c_behind_left k_behind_left, PySem.W.mg_of X G a_behind_left, ((fun_mk (st := s_behind_left) l_behind_left c_behind_left k_behind_left).binds (ps := ["moves", "known", "x", "p"]) fun _ _ _ _ _ _ us hl => match us, hl with | [_, _, _, _], _ => rfl)⟩, F_pair_holds := ⟨_, _, fun_mk (st := s_pair_holds) l_pair_holds c_pair_holds k_pair_holds, PySem.W.mg_of X G a_pair_holds, ((fun_mk (st := s_pair_holds) l_pair_holds c_pair_holds k_pair_holds).binds (ps := ["moves", "known", "x", "y"]) fun _ _ _ _ _ _ us hl => match us, hl with | [_, _, _, _], _ => rfl)⟩ }
  exact ⟨_, fun s v => .of_eq rfl, fun base _ _ => ok_law T (fun_mk (st := s_law) l_law c_law k_law)⟩
theorem walk {l : PySem.W.OpenLaw} {q : Program} {loose : List Str} {XP : (Str → Option Value) → Heap → Prop} {YP : World → Heap → Prop} {d : DefRec} {K : Params → PySem.W.Frag} (hn : l.most = some 63) (hdf : d.params.defaults = [])
    (hY : ∀ (w : World) (h : Heap), YP w h → (K w.params).In h)
    (F : ∀ (w : World) (mg : Str → Option Value) (fa : Addr) (h : Heap), (K w.params).In h → h.Ns mainGlobals mg → mg d.name = some (.ref fa) →
      ∃ fd : FuncData, (∀ (s : Shared) (u : Value), BindsTo s fd ⟨[u], []⟩ [("script", u)]) ∧ ∀ base : Heap, (K w.params).In base → base.Ns mainGlobals mg → FnOk l.prog w (K w.params) mg base CX0 68 fa fd ["script"] (sp_law_law (K w.params))) :
    PySem.W.WalkO q loose XP YP l.row.toRowW d [] (fun f vs => PySem.call f vs) :=
  L2.walk_of (n := 63) (k := 68) (x := "script") (CX := fun _ => CX0) (sp := fun w => sp_law_law (K w.params)) hn (by decide) hdf ⟨rfl, by decide, by decide⟩ hY F (fun _ H a ns hl _ hS => ⟨rfl, a, ns, rfl, hS, hl, fun _ => rfl⟩) fun _ _ _ _ _ z => z
end Hm

open PySem PySem.W PyProof.Rows in
set_option maxRecDepth 100000 in
set_option maxHeartbeats 0 in
theorem PySem.Challenge.cw_hotmoves_k19_plain_or_not_holds : PySem.Challenge.rw_hotmoves_k19_plain_or_not.Holds := by
  w_on; o_law; k_head; (case hw => w_witness2)
  k_fill
  refine Hm.walk (l := PySem.Challenge.rw_hotmoves_k19_plain_or_not) rfl rfl (fun w h Y => PySem.W.kIn_of Y) ?F
  case F =>
    intro w mg fa h KX G hmg
    refine' Hm.all_mk KX G hmg ?a_GameError ?a_NoGame ?a_Book ?pg_Book ?hd_Book ?po_Book ?sa_Book ?mk_Book ?kc_Book ?na_Book_depths ?na_Book_moves ?na_Book_numbers ?n_bool ?n_int ?n_isinstance ?n_len ?n_list ?n_max ?n_min ?n_range ?n_set ?n_sorted ?n_tuple ?a_SIDES ?l_SIDES ?a_Book_need ?i_Book_need ?l_Book_need ?c_Book_need ?k_Book_need ?a_Book_game ?i_Book_game ?l_Book_game ?c_Book_game ?k_Book_game ?a_Book_init ?i_Book_init ?l_Book_init ?c_Book_init ?k_Book_init ?a_Book_many ?i_Book_many ?l_Book_many ?c_Book_many ?k_Book_many ?a_Book_depth ?i_Book_depth ?l_Book_depth ?c_Book_depth ?k_Book_depth ?a_Book_lefts ?i_Book_lefts ?l_Book_lefts ?c_Book_lefts ?k_Book_lefts ?a_Book_rights ?i_Book_rights ?l_Book_rights ?c_Book_rights ?k_Book_rights ?a_reached ?l_reached ?c_reached ?k_reached ?a_moves_by ?l_moves_by ?c_moves_by ?k_moves_by ?a_pairs_by ?l_pairs_by ?c_pairs_by ?k_pairs_by ?a_no_less ?l_no_less ?c_no_less ?k_no_less ?a_moves_of ?l_moves_of ?c_moves_of ?k_moves_of ?a_other_side ?l_other_side ?c_other_side ?k_other_side ?a_is_beaten ?l_is_beaten ?c_is_beaten ?k_is_beaten ?a_is_answer ?l_is_answer ?c_is_answer ?k_is_answer ?a_beaten_step ?l_beaten_step ?c_beaten_step ?k_beaten_step ?a_answered_step ?l_answered_step ?c_answered_step ?k_answered_step ?a_positions ?l_positions ?c_positions ?k_positions ?a_is_plain ?l_is_plain ?c_is_plain ?k_is_plain ?a_law_cell ?l_law_cell ?c_law_cell ?k_law_cell ?a_law_mixed ?l_law_mixed ?c_law_mixed ?k_law_mixed ?a_law_games ?l_law_games ?c_law_games ?k_law_games ?a_law_rows ?l_law_rows ?c_law_rows ?k_law_rows ?a_law_loses ?l_law_loses ?c_law_loses ?k_law_loses ?a_law_no_less ?l_law_no_less ?c_law_no_less ?k_law_no_less ?a_law_positions ?l_law_positions ?c_law_positions ?k_law_positions ?a_law_beaten ?l_law_beaten ?c_law_beaten ?k_law_beaten ?a_law_answers ?l_law_answers ?c_law_answers ?k_law_answers ?a_law_plain ?l_law_plain ?c_law_plain ?k_law_plain ?a_behind_right ?l_behind_right ?c_behind_right ?k_behind_right ?a_behind_left ?l_behind_left ?c_behind_left ?k_behind_left ?a_pair_holds ?l_pair_holds ?c_pair_holds ?k_pair_holds ?a_law ?l_law ?c_law ?k_law
    (case a_GameError => k_is)
    (case a_NoGame => k_is)
    (case a_Book => k_is)
    (case pg_Book => k_is)
    (case hd_Book => k_is)
    (case po_Book => k_is)
    (case sa_Book => k_is)
    (case mk_Book => k_is)
    (case kc_Book => k_is)
    (case na_Book_depths => k_is)
    (case na_Book_moves => k_is)
    (case na_Book_numbers => k_is)
    (case n_bool => k_is)
    (case n_int => k_is)
    (case n_isinstance => k_is)
    (case n_len => k_is)
    (case n_list => k_is)
    (case n_max => k_is)
    (case n_min => k_is)
    (case n_range => k_is)
    (case n_set => k_is)
    (case n_sorted => k_is)
    (case n_tuple => k_is)
    (case a_SIDES => k_is)
    (case l_SIDES => k_is)
    (case a_Book_need => k_is)
    (case i_Book_need => k_is)
    (case l_Book_need => k_is)
    (case c_Book_need => k_is)
    (case k_Book_need => k_is)
    (case a_Book_game => k_is)
    (case i_Book_game => k_is)
    (case l_Book_game => k_is)
    (case c_Book_game => k_is)
    (case k_Book_game => k_is)
    (case a_Book_init => k_is)
    (case i_Book_init => k_is)
    (case l_Book_init => k_is)
    (case c_Book_init => k_is)
    (case k_Book_init => k_is)
    (case a_Book_many => k_is)
    (case i_Book_many => k_is)
    (case l_Book_many => k_is)
    (case c_Book_many => k_is)
    (case k_Book_many => k_is)
    (case a_Book_depth => k_is)
    (case i_Book_depth => k_is)
    (case l_Book_depth => k_is)
    (case c_Book_depth => k_is)
    (case k_Book_depth => k_is)
    (case a_Book_lefts => k_is)
    (case i_Book_lefts => k_is)
    (case l_Book_lefts => k_is)
    (case c_Book_lefts => k_is)
    (case k_Book_lefts => k_is)
    (case a_Book_rights => k_is)
    (case i_Book_rights => k_is)
    (case l_Book_rights => k_is)
    (case c_Book_rights => k_is)
    (case k_Book_rights => k_is)
    (case a_reached => k_is)
    (case l_reached => k_is)
    (case c_reached => k_is)
    (case k_reached => k_is)
    (case a_moves_by => k_is)
    (case l_moves_by => k_is)
    (case c_moves_by => k_is)
    (case k_moves_by => k_is)
    (case a_pairs_by => k_is)
    (case l_pairs_by => k_is)
    (case c_pairs_by => k_is)
    (case k_pairs_by => k_is)
    (case a_no_less => k_is)
    (case l_no_less => k_is)
    (case c_no_less => k_is)
    (case k_no_less => k_is)
    (case a_moves_of => k_is)
    (case l_moves_of => k_is)
    (case c_moves_of => k_is)
    (case k_moves_of => k_is)
    (case a_other_side => k_is)
    (case l_other_side => k_is)
    (case c_other_side => k_is)
    (case k_other_side => k_is)
    (case a_is_beaten => k_is)
    (case l_is_beaten => k_is)
    (case c_is_beaten => k_is)
    (case k_is_beaten => k_is)
    (case a_is_answer => k_is)
    (case l_is_answer => k_is)
    (case c_is_answer => k_is)
    (case k_is_answer => k_is)
    (case a_beaten_step => k_is)
    (case l_beaten_step => k_is)
    (case c_beaten_step => k_is)
    (case k_beaten_step => k_is)
    (case a_answered_step => k_is)
    (case l_answered_step => k_is)
    (case c_answered_step => k_is)
    (case k_answered_step => k_is)
    (case a_positions => k_is)
    (case l_positions => k_is)
    (case c_positions => k_is)
    (case k_positions => k_is)
    (case a_is_plain => k_is)
    (case l_is_plain => k_is)
    (case c_is_plain => k_is)
    (case k_is_plain => k_is)
    (case a_law_cell => k_is)
    (case l_law_cell => k_is)
    (case c_law_cell => k_is)
    (case k_law_cell => k_is)
    (case a_law_mixed => k_is)
    (case l_law_mixed => k_is)
    (case c_law_mixed => k_is)
    (case k_law_mixed => k_is)
    (case a_law_games => k_is)
    (case l_law_games => k_is)
    (case c_law_games => k_is)
    (case k_law_games => k_is)
    (case a_law_rows => k_is)
    (case l_law_rows => k_is)
    (case c_law_rows => k_is)
    (case k_law_rows => k_is)
    (case a_law_loses => k_is)
    (case l_law_loses => k_is)
    (case c_law_loses => k_is)
    (case k_law_loses => k_is)
    (case a_law_no_less => k_is)
    (case l_law_no_less => k_is)
    (case c_law_no_less => k_is)
    (case k_law_no_less => k_is)
    (case a_law_positions => k_is)
    (case l_law_positions => k_is)
    (case c_law_positions => k_is)
    (case k_law_positions => k_is)
    (case a_law_beaten => k_is)
    (case l_law_beaten => k_is)
    (case c_law_beaten => k_is)
    (case k_law_beaten => k_is)
    (case a_law_answers => k_is)
    (case l_law_answers => k_is)
    (case c_law_answers => k_is)
    (case k_law_answers => k_is)
    (case a_law_plain => k_is)
    (case l_law_plain => k_is)
    (case c_law_plain => k_is)
    (case k_law_plain => k_is)
    (case a_behind_right => k_is)
    (case l_behind_right => k_is)
    (case c_behind_right => k_is)
    (case k_behind_right => k_is)
    (case a_behind_left => k_is)
    (case l_behind_left => k_is)
    (case c_behind_left => k_is)
    (case k_behind_left => k_is)
    (case a_pair_holds => k_is)
    (case l_pair_holds => k_is)
    (case c_pair_holds => k_is)
    (case k_pair_holds => k_is)
    (case a_law => k_is)
    (case l_law => k_is)
    (case c_law => k_is)
    (case k_law => k_is)

