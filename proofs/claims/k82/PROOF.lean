import PyProof.Rows.All
import Wide.All
import OpenK.AllK
import Wide.FinOn
import HandS.ForMost
import HandS.ForExc
import HandS.Strs
import HandS.SetFor
import HandS.SortInts
import HandS.Deep
import HandS.Style
import HandS.Conv
import HandS.NoneIn
import HandS.IsInst
import HandS.Wide
import HandS.Codes
import HandS.Walk
import HandS.Zip
import HandS.StrMore
import HandS.RevRange
import HandS.Rev
import HandS.TupAny
import HandS.TupLen
import HandS.Steps
import HandS.Remove
import HandS.CallSlots
import HandS.ExcIs
import HandS.ExcValue
import KE.KDictDisplayH
import KE.KeyNested
import HandS.RaiseMore
import HandS.SortRule
import HandS.HotCalls
import HandS.ExcInitHot
import HandS.Text
import PyProof.ListStr
import PySem.Challenge.RW_hotmoves_k82_texts_that_write_none
set_option Elab.async false
set_option linter.all false
set_option maxRecDepth 100000
set_option maxHeartbeats 4000000
/-! F1: set(list of ints); sorted of a set of any size. -/
namespace Hm
open PySem PySem.Spec PyProof.Rows L2

/-- a set as it is made -/
abbrev emptySet (w : World) : Obj := { cls := .type "set", dict := none, data := .set #[] 0 (.fresh 0 0 (!w.params.followText "set-order")) }

section
variable {P : Program} {w : World} {A : Around} {E : Value → Shared → Prop} {s : Shared}

set_option maxHeartbeats 8000000 in
theorem set_of_list {l : Addr} {xs : Array Value} (ks : List Int) {Q : Value → Shared → Prop} (calm : A.handled = none) (isL : s.heap.IsList l xs) (are : IntsAre xs.toList ks) (few : ks.length + 1 < scanBound)
    (fin : ∀ (hp : Heap) (tk n : Nat), SetR w hp s.heap.objs.size (fun j => decide (j ∈ ks)) n → n ≤ ks.length → (∀ b o, s.heap.get? b = some o → hp.get? b = some o) → Q (.ref s.heap.objs.size) { s with heap := hp, toks := tk }) :
    wpAny (model P w) A (call (.type "set") [.ref l]) Q E s := by
  have sz : xs.size = ks.length := (Array.length_toList (xs := xs)).symm.trans (IntsAre.length are)
  have made := F.called_set.made
  have sub := F.called_set.sub
  obtain ⟨c, tl, mro⟩ := F.called_set.mro
  refine wpAny_call (codeAny_of_tree ?_)
  show wpAny _ _ (callAny (.type "set") _) _ _ _
  refine wpAny_pure ⟨Code.quiet_builtin _ (by decide +kernel), codeAny_builtin F.entry_type_call ?_⟩
  rw [Around.under_plain (weight_type_call_type "set" [.ref l] []) rfl]
  have f1 := F.called_set.notType
  have f2 := F.called_set.canCreate
  have f3 := F.typeCall_set_1 (.ref l)
  repeat (any_goals (first | assumption | wp_step))
  refine codeAny_mono (code_set_led1 (.ref l) (E := E) (Q₁ := fun v t => v = .ref s.heap.objs.size ∧ t = { s with heap := s.heap.push (emptySet w) }) ⟨rfl, rfl⟩) fun r t hr => ?_
  cases r with
  | error e => exact hr
  | ok fl =>
    cases fl with
    | next => exact hr.elim
    | brk => exact hr.elim
    | cont => exact hr.elim
    | ret v =>
      obtain ⟨rfl, rfl⟩ := hr
      have at0 : (s.heap.push (emptySet w)).get? s.heap.objs.size = some (emptySet w) := Heap.get?_push_size _ rfl
      have ty0 : Shared.TypeIs { s with heap := s.heap.push (emptySet w) } (.ref s.heap.objs.size) "set" := ⟨_, at0, rfl⟩
      have i1 := F.called_set.init.lookup
      have i2 := F.called_set.init.bind (.ref s.heap.objs.size)
      repeat (any_goals (first | assumption | wp_step))
      refine codeAny_mono (codeAny_call_builtin (R := wants (fun r t => r = .none ∧ ∃ hp tk n, t = { s with heap := hp, toks := tk } ∧ SetR w hp s.heap.objs.size (fun j => decide (j ∈ ks)) n ∧ n ≤ ks.length ∧ (∀ b o, s.heap.get? b = some o → hp.get? b = some o)) E)
        F.called_set.init.plain F.entry_set_init (check_set_init_1 ty0 ?_)) fun r t hr => ?_
      · obtain ⟨⟨oc, od, odt, osl⟩, got, e1, n0, e2⟩ := isL
        simp only at e1 e2
        subst e1 e2
        have got1 : (s.heap.push (emptySet w)).get? l = some { cls := .type "list", dict := od, data := .seq xs n0, slots := osl } := Heap.get?_push_of_some _ got
        have isL1 : (s.heap.push (emptySet w)).IsList l xs := ⟨_, got1, rfl, n0, rfl⟩
        have t1 := F.sub_list_set
        have t2 := F.sub_list_frozenset
        have t3 : (Value.type "list" == Value.type "dict") = false := by decide
        unfold Builtin.«set.__init__» noKeywords Builtin.Frozenset.updateFrom
        generalize eI : pyIter = I
        wp_walk
        subst eI
        refine wpAny_pyIter_list isL1 (wpAny_bind (wpAny_runValue ?_))
        have lt : l < s.heap.objs.size := Heap.lt_size got
        have calm3 : A.in1.in1.in1.handled = none := by simp [calm]
        have sz1 : (s.heap.push (emptySet w)).objs.size = s.heap.objs.size + 1 := Heap.size_push ..
        have neI : l ≠ (s.heap.push (emptySet w)).objs.size := by rw [sz1]; exact Nat.ne_of_lt (Nat.lt_succ_of_lt lt)
        have notS : s.heap.objs.size ∉ [(s.heap.push (emptySet w)).objs.size, l] := by
          rw [sz1]; intro z; simp only [List.mem_cons, List.not_mem_nil, or_false] at z
          rcases z with z | z
          · exact Nat.ne_of_lt (Nat.lt_succ_self _) z
          · exact Nat.ne_of_gt lt z
        have each : ∀ (i : Nat) (v : Value), xs[i]? = some v → ∃ k t, ks[i]? = some k ∧ v = .int k t := fun i v hv => by
          have hi : i < ks.length := by rw [← sz]; exact (Array.getElem?_eq_some_iff.mp hv).1
          obtain ⟨t, e⟩ := PyProof.Rows.IntsAre.int_at are i v (by rw [Array.getElem?_toList]; exact hv)
          exact ⟨ks[i], t, List.getElem?_eq_getElem hi, by rw [e, List.getD_eq_getElem?_getD, List.getElem?_eq_getElem hi]; rfl⟩
        refine set_update_ints ((Walks.list calm3 _ l neI xs).toS) s.heap.objs.size notS ks sz few each (xs.size - 0) 0 _ (by omega) (Nat.zero_le _)
          ⟨⟨_, Heap.get?_push_size _ rfl, rfl, rfl⟩, (isL1.push _)⟩ ?start ?done
        case start =>
          have g : ((s.heap.push (emptySet w)).push { cls := .type "list_iterator", data := .fields #[.ref l, .int 0 0] }).get? s.heap.objs.size = some (emptySet w) := Heap.get?_push_of_some _ at0
          exact ⟨0, Nat.le_refl 0, setR_new_at g⟩
        case done =>
          rintro ⟨hp, gs, dr, tk, os⟩ n mv nle R
          cases (show gs = s.gens from mv.gens)
          cases (show dr = s.drawn from mv.drawn)
          cases (show os = s.os from mv.os)
          show wpAny _ _ _ _ _ _
          refine wpAny_pure ?_
          show wpAny _ _ (ret Value.none) _ _ _
          rw [sz] at nle
          refine wpAny_pure ⟨rfl, hp, tk, n, rfl, R, nle, fun b o e => ?_⟩
          have b0 : b < s.heap.objs.size := Heap.lt_size e
          refine mv.heap b o (fun z => ?_) (Heap.get?_push_of_some _ (Heap.get?_push_of_some _ e))
          simp only [List.mem_cons, List.not_mem_nil, or_false] at z
          rw [sz1] at z
          rcases z with z | z
          · exact Nat.ne_of_lt b0 z
          · exact Nat.ne_of_lt (Nat.lt_succ_of_lt b0) z
      · cases r with
        | error e => exact hr
        | ok fl =>
          cases fl with
          | next => exact hr.elim
          | brk => exact hr.elim
          | cont => exact hr.elim
          | ret v =>
            obtain ⟨rfl, hp, tk, n, rfl, R, nle, keep⟩ := hr
            repeat (any_goals (first | assumption | wp_step))
            exact fin _ _ _ R nle keep

/-- sorted(s) of a set of ints of any size -/
theorem sorted_of_set {a : Addr} {S : Int → Bool} {n : Nat} {Q : Value → Shared → Prop} (R : SetR w s.heap a S n) (calm : A.handled = none)
    (fin : ∀ t p (out : Array Value) (c : Nat) (ns : List Int), (∀ b o, s.heap.get? b = some o → t.heap.get? b = some o) → t.gens = s.gens → t.os = s.os → s.heap.objs.size ≤ p →
      t.heap.get? p = some (seqObj "list" out c) → IntsAre out.toList ns → ns.Pairwise (· < ·) → (∀ k, k ∈ ns ↔ S k = true) → ns.length = n → Q (.ref p) t) :
    wpAny (model P w) A (call (.builtin "sorted") [.ref a]) Q E s := by
  obtain ⟨o, es, ep, t, ho, hex, hd, good, nd, mem, few, fits, num, ris, led⟩ := R
  refine Calls.call_function_entry kind_sorted plain_sorted entry_sorted (args_sorted1 _) ?_
  unfold Builtin.«sorted»
  refine wpAny_bind (m := checkCount "sorted" 1 1 _) (wpAny_pure ?_)
  refine wpAny_bind (collect_set (A := A.in1) calm ⟨o, ho, hex.1, hd⟩ fits few ris led fun s1 vs k1 big g1 o1 pm => ?_)
  have len : vs.length = n := by rw [pm.length_eq, List.length_map, Array.length_toList]; exact num
  have areI : IntsAre vs (vs.map Builtin.Re.reRawOf) := ints_of vs fun v hv => by
    obtain ⟨e, he, q⟩ := List.mem_map.mp (pm.mem_iff.mp hv)
    obtain ⟨k, tk, h1, _⟩ := good e he
    exact ⟨k, tk, q ▸ h1⟩
  have pk : (vs.map Builtin.Re.reRawOf).Perm (es.toList.map keyOf) := by
    have q := pm.map Builtin.Re.reRawOf
    rw [List.map_map] at q
    exact q
  have line : vs.length ≤ sizeLine := by
    rw [len, sizeLine_eq]; have : scanBound = 4096 := rfl; omega
  refine wpAny_bind (wpAny_newList ?_ line)
  have at1 : (s1.heap.push (seqObj "list" vs.toArray 0)).get? s1.heap.objs.size = some (seqObj "list" vs.toArray 0) := Heap.get?_push_size _ rfl
  refine wpAny_bind (wpAny_holding (wpAny_call_entry slot_list_sort ⟨_, at1, rfl⟩ entry_list_sort
    (SrtO.list_sort_ord SrtO.swo_int at1 line (fun h2 => SrtO.ints_sortable areI h2) fun out h1 h2 => ⟨_, rfl, ?_⟩) (args_list_sort _)))
  obtain ⟨j1, j2, j3⟩ := SrtO.ints_out areI h1 h2
  obtain ⟨c, hc⟩ := sortedHeap_at (vs := vs) (out := out.toArray) at1
  have pn : (out.map SrtO.iv).Perm (es.toList.map keyOf) := j2.trans pk
  refine wpAny_pure ⟨_, rfl, fin _ s1.heap.objs.size out.toArray c (out.map SrtO.iv) (fun b u e => ?_) g1 o1 big hc (by simpa using j1) (lt_of_le_nodup _ j3 (pn.nodup_iff.mpr nd)) (fun k => by rw [pn.mem_iff, ← mem k]) ?_⟩
  · have q := k1 b u e
    have lt := Heap.lt_size q
    show (sortedHeap (s1.heap.push (seqObj "list" vs.toArray 0)) s1.heap.objs.size vs out.toArray).get? b = some u
    rw [sortedHeap_old (Nat.ne_of_lt lt) (by rw [size_push']; exact Nat.lt_succ_of_lt lt)]
    exact Heap.get?_push_of_some _ q
  · rw [pn.length_eq, List.length_map, Array.length_toList]; exact num
end

section
variable {X : Cx}
/-- set(xs), xs a list of ints -/
def uSetI (K : PySem.W.Frag) (w : World) : List V → Hp → VK → Prop := fun xs H Q => ∃ (l : Addr) (ns : List Int), xs = [.ref l] ∧ SqL K H l (ns.map V.int) ∧ ns.length ≤ 4000 ∧
  ∀ (a : Addr) (n : Nat), H a = none → n ≤ ns.length → Q (.ref a) (upd H a (SetO w a (fun j => decide (j ∈ ns)) n))
theorem cu_setI (hc : X.calm = true) : CallR X (.type "set") (uSetI X.K X.w) := by
  intro pins s σ H xs us Q I r h
  obtain ⟨l, ns, rfl, hl, few, q⟩ := h
  rw [Vals.ref1 r]
  obtain ⟨its, rv, pl, hz⟩ := I.list hl
  have hs : scanBound = 4096 := rfl
  refine set_of_list ns (I.ok.hd hc) pl.isList (by simpa using rv.ints) (by omega) fun hp tk n R nle keep => ?_
  exact ⟨.ref _, upd H s.heap.objs.size (SetO X.w s.heap.objs.size (fun j => decide (j ∈ ns)) n), I.laid (t' := tk) keep (Nat.le_refl _) (setO_new R), rfl, q _ n (I.hok.fresh (Nat.le_refl _)) nle⟩
/-- sorted(s), s a set of ints -/
def uSortSet (w : World) : List V → Hp → VK → Prop := fun vs H Q => ∃ (a : Addr) (S : Int → Bool) (n : Nat), vs = [V.ref a] ∧ H a = some (SetO w a S n) ∧
  ∀ (ns : List Int) (p : Addr), ns.Pairwise (· < ·) → (∀ k : Int, k ∈ ns ↔ S k = true) → ns.length = n → H p = none → Q (.ref p) (upd H p (.lst (ns.map V.int)))
theorem cu_sortSet (hc : X.calm = true) : CallR X (.builtin "sorted") (uSortSet X.w) := by
  intro pins s σ H vs us Q I r h
  obtain ⟨a, S, n, rfl, ha, q⟩ := h
  have R := setO_get I ha
  have nb : n ≤ 4096 := by
    obtain ⟨_, es, _, _, _, _, _, _, _, _, few, _, num, _⟩ := R
    have hs : scanBound = 4096 := rfl
    omega
  rw [Vals.ref1 r]
  refine sorted_of_set R (I.ok.hd hc) fun s' p out c ns k g o big got areI up mem len => ?_
  have line : (ns.map V.int).length ≤ sizeLine := by rw [List.length_map, len, sizeLine_eq]; omega
  have new : H p = none := I.hok.fresh big
  have J : Inv X pins σ (upd H p (.lst (ns.map V.int))) { s with heap := s'.heap, gens := s'.gens, drawn := s'.drawn, toks := s'.toks } :=
    I.call (ch := []) (Un.laid k big new) (I.hok.laid k big ⟨line, out.toList, c, vals_of_ints areI, got⟩) (by rw [g]; exact I.bare) (fun _ z => nomatch z)
  have same : s' = { s with heap := s'.heap, gens := s'.gens, drawn := s'.drawn, toks := s'.toks } := by
    cases s'; cases s; cases o; rfl
  rw [same]
  exact ⟨.ref p, _, J, rfl, q ns p up mem len new⟩
end
end Hm

/-! F1b: dicts whose keys are nested tuples of ints and texts. -/
namespace Hm
open PySem PySem.Spec PyProof.Rows L2

mutual
/-- the value v is the key k, its tuples tracked -/
def NkV (H : Hp) : NestedKey → V → Prop
  | .none, v => v = .non
  | .num i, v => v = .int i ∨ ∃ b : Bool, v = .bl b ∧ i = (if b = true then 1 else 0)
  | .text x, v => v = .str x
  | .tup ks, v => ∃ a vs, v = .ref a ∧ H a = some (.tup vs) ∧ NkVs H ks vs
def NkVs (H : Hp) : List NestedKey → List V → Prop
  | [], vs => vs = []
  | k :: ks, vs => ∃ v r, vs = v :: r ∧ NkV H k v ∧ NkVs H ks r
end
mutual
theorem NkV.keeps {H H' : Hp} (ht : ∀ b xs, H b = some (.tup xs) → H' b = some (.tup xs)) : ∀ (k : NestedKey) (v : V), NkV H k v → NkV H' k v
  | .none, _, h => by simpa only [NkV] using h
  | .num i, _, h => by simpa only [NkV] using h
  | .text x, _, h => by simpa only [NkV] using h
  | .tup ks, _, h => by
    simp only [NkV] at h ⊢
    obtain ⟨a, vs, e, ha, hs⟩ := h
    exact ⟨a, vs, e, ht _ _ ha, NkVs.keeps ht ks vs hs⟩
theorem NkVs.keeps {H H' : Hp} (ht : ∀ b xs, H b = some (.tup xs) → H' b = some (.tup xs)) : ∀ (ks : List NestedKey) (vs : List V), NkVs H ks vs → NkVs H' ks vs
  | [], _, h => by simpa only [NkVs] using h
  | k :: ks, _, h => by
    simp only [NkVs] at h ⊢
    obtain ⟨v, r, e, h1, h2⟩ := h
    exact ⟨v, r, e, NkV.keeps ht k v h1, NkVs.keeps ht ks r h2⟩
end
section
variable {P : Program} {w : World} {H : Hp} {h : Heap}
mutual
theorem nk_is (ok : HOk P w H h) : ∀ (k : NestedKey) (v : V) (u : Value), NkV H k v → RelV v u → NestedIs h k u
  | .none, _, _, e, r => by simp only [NkV] at e; subst e; cases r; exact .none
  | .num i, _, _, e, r => by
    simp only [NkV] at e
    rcases e with rfl | ⟨b, rfl, e⟩
    · obtain ⟨t, rfl⟩ := r; exact .int i t
    · cases r; exact .bool e
  | .text x, _, _, e, r => by simp only [NkV] at e; subst e; obtain ⟨t, rfl⟩ := r; exact .text x t
  | .tup ks, _, _, e, r => by
    simp only [NkV] at e
    obtain ⟨a, vs, rfl, ha, hs⟩ := e
    cases r
    obtain ⟨_, its, rv, o, h1, h2, n, h3⟩ := (show ObjOk P w H h a (.tup vs) from ok a _ ha)
    exact .tup h1 h2 h3 (by simpa using nks_are ok ks vs its hs rv)
theorem nks_are (ok : HOk P w H h) : ∀ (ks : List NestedKey) (vs : List V) (us : List Value), NkVs H ks vs → Vals vs us → NestedAll h ks us
  | [], _, _, e, r => by simp only [NkVs] at e; subst e; cases r; exact .nil
  | k :: ks, _, _, e, r => by
    simp only [NkVs] at e
    obtain ⟨v, rr, rfl, h1, h2⟩ := e
    cases r with
    | cons r1 r2 => exact .cons (nk_is ok k v _ h1 r1) (nks_are ok ks rr _ h2 r2)
end
end

/-- an entry: the key, its tuple's address, the value -/
abbrev NX := NestedKey × Addr × V
def NRel (p : NX) (q : NestedKey × Addr × Value) : Prop := p.1 = q.1 ∧ p.2.1 = q.2.1 ∧ RelV p.2.2 q.2.2
/-- the dict at a -/
def NdO (P : Program) (w : World) (a : Addr) (xs : List NX) : HO := .ext fun h => (a == sysModules) = false ∧ xs.length ≤ sizeLine ∧ ∃ ys, Paired NRel xs ys ∧
  ∃ o es ep, h.get? a = some o ∧ o.ExactDict ∧ o.data = .dict es ep ∧ es.toList = ys.map (entryOfKey (nestedKind P w)) ∧ (ys.map (·.1)).Nodup
structure NdAt (P : Program) (w : World) (H : Hp) (a : Addr) (xs : List NX) : Prop where
  here : H a = some (NdO P w a xs)
  keys : ∀ x ∈ xs, NkV H x.1 (.ref x.2.1) ∧ x.1.depth ≤ 8
def nval (xs : List NX) (k : NestedKey) : Option V := (xs.find? fun x => decide (x.1 = k)).map (·.2.2)
def nput (xs : List NX) (k : NestedKey) (a : Addr) (v : V) : List NX := if (nval xs k).isSome then xs.map fun x => if x.1 = k then (x.1, x.2.1, v) else x else xs ++ [(k, a, v)]

section
variable {P : Program} {w : World} {H H' : Hp} {h h' : Heap} {a : Addr} {xs : List NX}
theorem ndO_ok {ys : List (NestedKey × Addr × Value)} (z : (a == sysModules) = false) (l : xs.length ≤ sizeLine) (r : Paired NRel xs ys) (d : h.DictOfH (nestedKind P w) a ys) : ObjOk P w H h a (NdO P w a xs) := by
  obtain ⟨o, es, ep, e1, e2, e3, e4, e5, e6⟩ := d
  refine ⟨⟨z, l, ys, r, o, es, ep, e1, e2, e3, e4, e6⟩, ⟨o, e1⟩, fun h1 h2 q k => ?_⟩
  obtain ⟨z, l, ys, r, o, es, ep, f1, f⟩ := q
  exact ⟨z, l, ys, r, o, es, ep, k o f1, f⟩
theorem NdAt.get (ok : HOk P w H h) (N : NdAt P w H a xs) : (a == sysModules) = false ∧ xs.length ≤ sizeLine ∧ ∃ ys, Paired NRel xs ys ∧ h.DictOfH (nestedKind P w) a ys := by
  obtain ⟨⟨z, l, ys, r, o, es, ep, e1, e2, e3, e4, e6⟩, _, _⟩ := ok a _ N.here
  refine ⟨z, l, ys, r, o, es, ep, e1, e2, e3, e4, ?_, e6⟩
  have all : ∀ {l : List NX} {m : List (NestedKey × Addr × Value)}, Paired NRel l m → (∀ x ∈ l, NkV H x.1 (.ref x.2.1) ∧ x.1.depth ≤ 8) → ∀ y ∈ m, (nestedKind P w).is h y.1 y.2.1 := by
    intro l m q
    induction q with
    | nil => intro _ y hy; exact nomatch hy
    | @cons p q ps qs hq t ih =>
      intro hk y hy
      rcases List.mem_cons.mp hy with e | hy
      · subst e
        obtain ⟨k1, k2⟩ := hk p List.mem_cons_self
        rw [← hq.1, ← hq.2.1]
        exact ⟨nk_is ok p.1 _ _ k1 rfl, k2⟩
      · exact ih (fun x hx => hk x (List.mem_cons_of_mem _ hx)) y hy
  exact all r N.keys
theorem NRel.val {ys : List (NestedKey × Addr × Value)} (r : Paired NRel xs ys) (k : NestedKey) : RelO (nval xs k) ((atKey ys k).map (·.2)) := by
  induction r with
  | nil => exact True.intro
  | @cons p q ps qs hq t ih =>
    obtain ⟨h1, _, h3⟩ := hq
    by_cases e : p.1 = k
    · have e' : q.1 = k := h1.symm.trans e
      have b : atKey (q :: qs) k = some q.2 := by simp [atKey, List.find?_cons, e']
      have c : nval (p :: ps) k = some p.2.2 := by simp [nval, List.find?_cons, e]
      rw [c, b]; exact h3
    · have e' : ¬ q.1 = k := fun z => e (h1.trans z)
      have b : atKey (q :: qs) k = atKey qs k := by simp [atKey, List.find?_cons, e']
      have c : nval (p :: ps) k = nval ps k := by simp [nval, List.find?_cons, e]
      rw [c, b]; exact ih
theorem NRel.put {ys : List (NestedKey × Addr × Value)} (r : Paired NRel xs ys) (k : NestedKey) (b : Addr) {v : V} {u : Value} (rv : RelV v u) : Paired NRel (nput xs k b v) (storedH ys k b u) := by
  have e : (nval xs k).isSome = (atKey ys k).isSome := by rw [(NRel.val r k).isSome_eq, Option.isSome_map]
  unfold nput storedH
  rw [e]
  by_cases q : (atKey ys k).isSome = true
  · rw [if_pos q, if_pos q]
    clear e q
    induction r with
    | nil => exact .nil
    | @cons p q ps qs hq t ih =>
      rw [List.map_cons, List.map_cons]
      refine .cons ?_ ih
      obtain ⟨h1, h2, h3⟩ := hq
      unfold putAt
      by_cases e : p.1 = k
      · rw [if_pos e, if_pos (h1.symm.trans e)]; exact ⟨h1, h2, rv⟩
      · rw [if_neg e, if_neg (fun z => e (h1.trans z))]; exact ⟨h1, h2, h3⟩
  · rw [if_neg q, if_neg q]
    exact Paired.snoc r ⟨rfl, rfl, rv⟩
theorem nput_len (xs : List NX) (k : NestedKey) (b : Addr) (v : V) : (nput xs k b v).length ≤ xs.length + 1 := by
  unfold nput; split <;> simp
theorem nput_keys {k : NestedKey} {b : Addr} {v : V} (hk : ∀ x ∈ xs, NkV H x.1 (.ref x.2.1) ∧ x.1.depth ≤ 8) (hb : NkV H k (.ref b)) (d : k.depth ≤ 8) : ∀ x ∈ nput xs k b v, NkV H x.1 (.ref x.2.1) ∧ x.1.depth ≤ 8 := by
  intro x hx
  unfold nput at hx
  split at hx
  · obtain ⟨y, hy, e⟩ := List.mem_map.mp hx
    subst e
    split
    · exact hk y hy
    · exact hk y hy
  · rcases List.mem_append.mp hx with hx | hx
    · exact hk x hx
    · cases List.mem_singleton.mp hx; exact ⟨hb, d⟩
theorem NdAt.keep (N : NdAt P w H a xs) (ha : H' a = H a) (ht : ∀ b ys, H b = some (.tup ys) → H' b = some (.tup ys)) : NdAt P w H' a xs :=
  ⟨ha.trans N.here, fun x hx => ⟨NkV.keeps ht _ _ (N.keys x hx).1, (N.keys x hx).2⟩⟩
end

theorem nk_key {P : Program} {w : World} {H : Hp} {h : Heap} {k : NestedKey} {p : Addr} (ok : HOk P w H h) (kp : NkV H k (.ref p)) (d : k.depth ≤ 8) : (nestedKind P w).is h k p := ⟨nk_is ok k _ _ kp rfl, d⟩
section
variable {X : Cx}
/-- y in d -/
def uNIn (P : Program) (w : World) (neg : Bool) : R2 := fun y x H Q => ∃ a p k xs, x = .ref a ∧ y = .ref p ∧ NdAt P w H a xs ∧ NkV H k (.ref p) ∧ k.depth ≤ 8 ∧ Q (.bl (neg != (nval xs k).isSome)) H
theorem NdAt.isSome {P : Program} {w : World} {k : NestedKey} {xs : List NX} {ys : List (NestedKey × Addr × Value)} (r : Paired NRel xs ys) : (atKey ys k).isSome = (nval xs k).isSome := by
  rw [(NRel.val r k).isSome_eq, Option.isSome_map]
theorem ou_nin (hu : X.A.units + 64 < cLine) : OpR X (compareOp .In) (uNIn X.prog X.w false) := by
  intro pins s σ H y x v u Q I ry rx h
  obtain ⟨a, p, k, xs, rfl, rfl, N, kp, d, q⟩ := h
  cases rx; cases ry
  obtain ⟨z, l, ys, r, D⟩ := N.get I.hok
  refine wpAny_in_heap (show X.A.units + 1 + 8 < cLine by omega) (nk_key I.hok kp d) z D ?_
  rw [NdAt.isSome (P := X.prog) (w := X.w) r]
  exact ⟨.bl _, H, I.tok _, rfl, by simpa using q⟩
theorem ou_nnotin (hu : X.A.units + 64 < cLine) : OpR X (compareOp .NotIn) (uNIn X.prog X.w true) := by
  intro pins s σ H y x v u Q I ry rx h
  obtain ⟨a, p, k, xs, rfl, rfl, N, kp, d, q⟩ := h
  cases rx; cases ry
  obtain ⟨z, l, ys, r, D⟩ := N.get I.hok
  refine wpAny_notIn_heap (show X.A.units + 1 + 8 < cLine by omega) (nk_key I.hok kp d) z D ?_
  rw [NdAt.isSome (P := X.prog) (w := X.w) r]
  exact ⟨.bl _, H, I.tok _, rfl, by simpa using q⟩
/-- d[y] -/
def uNIx (P : Program) (w : World) : R2 := fun x y H Q => ∃ a p k xs v, x = .ref a ∧ y = .ref p ∧ NdAt P w H a xs ∧ NkV H k (.ref p) ∧ k.depth ≤ 8 ∧ nval xs k = some v ∧ Q v H
theorem ix_nd (hu : X.A.units + 64 < cLine) : IxR X (uNIx X.prog X.w) := by
  intro value slice pins s σ H x y v u Q I rx ry h hs
  obtain ⟨a, p, k, xs, z, rfl, rfl, N, kp, d, e, q⟩ := h
  cases rx; cases ry
  obtain ⟨_, l, ys, r, D⟩ := N.get I.hok
  obtain ⟨w', hw, rw'⟩ := RelO.some_of (v := z) (o := (atKey ys k).map (·.2)) (by rw [← e]; exact NRel.val r k)
  obtain ⟨q2, hq2, e2⟩ := Option.map_eq_some_iff.mp hw
  refine tail_any D.typeIs PySem.F.slot_dict_getitem.lookup (wpAny_getItem_heap (show X.A.units + 1 + 8 < cLine by omega) (nk_key I.hok kp d) D hq2 ?_) hs
  rw [e2]
  exact ⟨z, H, I.tok _, rw', q⟩
/-- a dict's item by int, text, or a flat tuple -/
def uDIx : R2 := fun x y H Q => ∃ a v, x = .ref a ∧ DGet H a y (some v) ∧ Q v H
theorem ix_d (hu : X.A.units + 64 < cLine) : IxR X uDIx := by
  intro value slice pins s σ H x y v u Q I rx ry h hs
  obtain ⟨a, z, rfl, g, q⟩ := h
  cases rx
  exact tail_any (dict_typeIs I g) PySem.F.slot_dict_getitem.lookup (d_getItem (by omega) I g ry fun w' s' I' rw' => ⟨z, H, I', rw', q⟩) hs
/-- y in d, keys ints, texts, flat tuples -/
def uDIn (neg : Bool) : R2 := fun y x H Q => ∃ a o, x = .ref a ∧ DGet H a y o ∧ Q (.bl (neg != o.isSome)) H
theorem ou_din (hu : X.A.units + 64 < cLine) : OpR X (compareOp .In) (uDIn false) := by
  intro pins s σ H y x v u Q I ry rx h
  obtain ⟨a, o, rfl, g, q⟩ := h
  cases rx
  exact d_in (by omega) I g ry fun s' I' => ⟨.bl _, H, I', rfl, by simpa using q⟩
theorem ou_dnotin (hu : X.A.units + 64 < cLine) : OpR X (compareOp .NotIn) (uDIn true) := by
  intro pins s σ H y x v u Q I ry rx h
  obtain ⟨a, o, rfl, g, q⟩ := h
  cases rx
  exact d_notIn (by omega) I g ry fun s' I' => ⟨.bl _, H, I', rfl, by simpa using q⟩
/-- d[y] = v -/
def uNSet (P : Program) (w : World) : V → V → V → Hp → (Hp → Prop) → Prop := fun o i v H Q => ∃ a p k xs, o = .ref a ∧ i = .ref p ∧ NdAt P w H a xs ∧ NkV H k (.ref p) ∧ k.depth ≤ 8 ∧ xs.length < sizeLine ∧ Q (upd H a (NdO P w a (nput xs k p v)))
theorem set_nd (hu : X.A.units + 64 < cLine) : PSet X (uNSet X.prog X.w) := by
  intro pins s σ H o i v ov iv u Q I ro ri rv h
  obtain ⟨a, p, k, xs, rfl, rfl, N, kp, d, few, q⟩ := h
  cases ro; cases ri
  obtain ⟨z, l, ys, r, D⟩ := N.get I.hok
  have hl : (nput xs k p v).length ≤ sizeLine := Nat.le_trans (nput_len xs k p v) few
  refine wpAny_setItem_heap (hsz := by rw [← Paired.length r]; exact l) (show X.A.units + 1 + 8 < cLine by omega) (nk_key I.hok kp d) D fun h' D' hs => ?_
  have he : ∃ q, h'.get? a = some q := let ⟨q, _, _, hq, _⟩ := D'; ⟨q, hq⟩
  exact ⟨_, d_write I (by rw [N.here]; exact True.intro) hs he (ndO_ok z hl (NRel.put r k p rv) D'), q⟩
def uDSet : V → V → V → Hp → (Hp → Prop) → Prop := fun o i v H Q => ∃ a H', o = .ref a ∧ DPut H a i v H' ∧ Q H'
theorem set_d (hu : X.A.units + 64 < cLine) : PSet X uDSet := by
  intro pins s σ H o i v ov iv u Q I ro ri rv h
  obtain ⟨a, H', rfl, g, q⟩ := h
  cases ro
  exact d_setItem (by omega) I g ri rv fun s' I' => ⟨H', I', q⟩
theorem PSet.or {X : Cx} {t t' : TSet} (h : PSet X t) (h' : PSet X t') : PSet X (fun o i v H Q => t o i v H Q ∨ t' o i v H Q) := by
  intro pins s σ H o i v ov iv u Q I ro ri rv q
  rcases q with q | q
  · exact h pins s σ H o i v ov iv u Q I ro ri rv q
  · exact h' pins s σ H o i v ov iv u Q I ro ri rv q
/-- {} with nested keys to come -/
theorem nd_empty {P : Program} {w : World} {H : Hp} (h : Heap) (hb : sysModules < h.objs.size) : ObjOk P w H (h.push { cls := .type "dict", data := .dict #[] }) h.objs.size (NdO P w h.objs.size []) :=
  ndO_ok (beq_eq_false_iff_ne.mpr (Ne.symm (Nat.ne_of_lt hb))) (Nat.zero_le _) .nil (Heap.DictOfH.new h)
def uDNew (P : Program) (w : World) : TE := fun _ H Q => (∃ kind : Bool, ∀ p, H p = none → Q (.ref p) (upd H p (if kind = true then .dK [] else NdO P w p []))) ∨ (∀ p, H p = none → Q (.ref p) (upd H p (.dT [])))
theorem pe_dnew {pos : Pos} : PE X (.Dict [] [] pos) (uDNew X.prog X.w) := ⟨fun pins s σ H Q I h => by
  rcases h with ⟨kind, q⟩ | q
  · cases kind with
    | true => exact wpAny_Dict_empty ⟨.ref s.heap.objs.size, _, I.laid (a := s.heap.objs.size) (o := .dK []) (t' := s.toks) (fun _ _ q => Heap.get?_push_of_some _ q) (Nat.le_refl _) (dk_empty s.heap I.big), rfl, q _ (I.hok.fresh (Nat.le_refl _))⟩
    | false => exact wpAny_Dict_empty ⟨.ref s.heap.objs.size, _, I.laid (a := s.heap.objs.size) (o := NdO X.prog X.w s.heap.objs.size []) (t' := s.toks) (fun _ _ q => Heap.get?_push_of_some _ q) (Nat.le_refl _) (nd_empty s.heap I.big), rfl, q _ (I.hok.fresh (Nat.le_refl _))⟩
  · exact pe_dnewT.run pins s σ H Q I q⟩
/-- {k: v} with one nested key -/
def uDisp1 (P : Program) (w : World) (tk tv : TE) : TE := fun σ H Q => ∀ p, H p = none → tk σ (upd H p (NdO P w p [])) fun x H1 => tv σ H1 fun y H2 =>
  ∃ k b, x = .ref b ∧ H2 p = some (NdO P w p []) ∧ NkV H2 k (.ref b) ∧ k.depth ≤ 8 ∧ Q (.ref p) (upd H2 p (NdO P w p [(k, b, y)]))
theorem pe_disp1 {ke ve : Expr} {tk tv : TE} {pos : Pos} (hu : X.A.units + 64 < cLine) (hk : PE X ke tk) (hv : PE X ve tv)
    (shape : (evalEachOpt [some ke] X.env).zip ((evalEach [ve] X.env).map fun v => do let x ← v; standAt pos; pure x) = [(eval ke X.env, (do let x ← eval ve X.env; standAt pos; pure x))].map fun p => (some p.1, p.2) := by rfl) :
    PE X (.Dict [some ke] [ve] pos) (uDisp1 X.prog X.w tk tv) := by
  refine ⟨fun pins s σ H Q I h => ?_⟩
  have hn := I.hok.fresh (Nat.le_refl s.heap.objs.size)
  have I1 := I.laid (a := s.heap.objs.size) (o := NdO X.prog X.w s.heap.objs.size []) (h' := s.heap.push { cls := .type "dict", data := .dict #[] }) (t' := s.toks) (fun _ _ q => Heap.get?_push_of_some _ q) (Nat.le_refl _) (nd_empty s.heap I.big)
  have h1 : PPs X pos [some ke] [ve] [(tk, tv)] := pps_cons hk hv pps_nil
  have trees : pairTrees [some ke] [ve] X.env pos = [(eval ke X.env, (do let x ← eval ve X.env; standAt pos; pure x))] := by rfl
  have run := h1.run pins _ σ _ (fun ps H2 => match ps with
    | [(x, y)] => ∃ k b, x = .ref b ∧ H2 s.heap.objs.size = some (NdO X.prog X.w s.heap.objs.size []) ∧ NkV H2 k (.ref b) ∧ k.depth ≤ 8 ∧ Q (.ref s.heap.objs.size) (upd H2 s.heap.objs.size (NdO X.prog X.w s.heap.objs.size [(k, b, y)]))
    | _ => False) I1 (h _ hn)
  rw [trees] at run
  rw [arm_eval_Dict, shape, dictDisplay_pairs _ (by simp) (by simp)]
  refine wpAny_bind (wpAny_standAt (wpAny_bind (wpAny_subDictH (knd := nestedKind X.prog X.w) (show X.A.units + 8 < cLine by omega) (by simp) (thn run fun vs s2 hh => ?_))))
  obtain ⟨ps, H2, I2, rel, q⟩ := hh
  split at q
  · rename_i x y
    obtain ⟨k, b, rfl, e, kb, d, q⟩ := q
    cases rel with
    | @cons p1 q1 ps qs rr t =>
    cases t
    obtain ⟨u1, u2⟩ := q1
    obtain ⟨r1, r2⟩ := rr
    cases (show u1 = Value.ref b from r1)
    obtain ⟨z, l, ys, rr, D⟩ := NdAt.get I2.hok (xs := []) ⟨e, fun _ hx => nomatch hx⟩
    cases rr
    refine ⟨[(k, b, u2)], ⟨rfl, rfl, nk_key I2.hok kb d, True.intro⟩, D, fun h' tk' D' hs => wpAny_pure ⟨.ref s.heap.objs.size, _, ?_, rfl, q⟩⟩
    have he : ∃ q, h'.get? s.heap.objs.size = some q := let ⟨q, _, _, hq, _⟩ := D'; ⟨q, hq⟩
    exact d_write I2 (by rw [e]; exact True.intro) hs he (ndO_ok (ys := [(k, b, u2)]) z (by rw [sizeLine_eq]; exact (by decide : (1 : Nat) ≤ 16777216)) (.cons ⟨rfl, rfl, r2⟩ .nil) D')
  · exact q.elim
end
/-! sorted(t), t a tuple of ints -/
section
open PyProof.Rows
variable {P : Program} {w : World} {A : Around} {E : Value → Shared → Prop} {s : Shared}
theorem collect_tup {l : Addr} {vs : List Value} {Q : List Value → Shared → Prop} (hl : s.heap.IsTuple l vs.toArray) (hsz : vs.length ≤ sizeLine)
    (h : Q vs { s with heap := (s.heap.push (seqObj "list" #[] 0)).update s.heap.objs.size (Obj.mapSeq (· ++ vs.toArray)) }) :
    wpAny (model P w) A (collect (.ref l)) Q E s := by
  obtain ⟨o, ho, hc, n, hd⟩ := id hl
  unfold collect
  refine wpAny_bind (wpAny_runValue (codeAny_builtin entry_proto_collect' ?_))
  show wpAny _ _ (do again (.builtin "list.__iadd__" ⟨[← newList [], .ref l], []⟩)) _ _ s
  refine wpAny_bind (wpAny_newList (wpAny_pure ⟨Code.quiet_builtin _ (by decide +kernel), codeAny_builtin entry_list_iadd' ?_⟩))
  show wpAny _ _ (Builtin.List.listExtendWith (.ref s.heap.objs.size) (.ref l) (.ref s.heap.objs.size)) _ _ { s with heap := s.heap.push (seqObj "list" #[] 0) }
  unfold Builtin.List.listExtendWith
  have ho' : (s.heap.push (seqObj "list" #[] 0)).get? l = some o := Heap.get?_push_of_some _ ho
  refine wpAny_bind (wpAny_typeOf (T := "tuple") ⟨o, ho', hc⟩ ?_)
  have ht : (Value.type "tuple" == Value.type "tuple") = true := by rfl
  rw [if_pos (by rw [ht]; simp)]
  refine wpAny_bind (listItems_at ho' hd ?_)
  refine wpAny_bind (listItems_at (xs := #[]) (n := 0) (Heap.get?_push_size _ rfl) rfl ?_)
  rw [if_neg (by simp)]
  refine wpAny_bind (listUpdate_at (xs := #[]) (n := 0) (Heap.get?_push_size _ rfl) rfl ?_ (Nat.zero_le _) (by show (#[] ++ vs.toArray).size ≤ sizeLine + 1; simp only [Array.size_append, List.size_toArray, List.length_nil]; omega))
  refine wpAny_pure ?_
  show wpAny (model P w) A (do
      let o ← load s.heap.objs.size
      match o.data with
      | .seq xs _ => pure xs.toList
      | _ => unsupported "internal:collect") Q E { s with heap := (s.heap.push (seqObj "list" #[] 0)).update s.heap.objs.size (Obj.mapSeq (· ++ vs.toArray)) }
  refine wpAny_bind (wpAny_load (get?_update_seq (Heap.get?_push_size _ rfl) _) ?_)
  show wpAny _ _ (pure ((#[] : Array Value) ++ vs.toArray).toList) Q E _
  rw [show ((#[] : Array Value) ++ vs.toArray).toList = vs by simp]
  exact wpAny_pure h
theorem sorted_of_tup {l : Addr} {vs : List Value} {ns : List Int} {Q : Value → Shared → Prop} (hl : s.heap.IsTuple l vs.toArray) (hsz : vs.length ≤ sizeLine) (areI : IntsAre vs ns)
    (fin : ∀ (h' : Heap) (p : Addr) (out : Array Value) (c : Nat) (ns' : List Int), (∀ b o, s.heap.get? b = some o → h'.get? b = some o) → s.heap.objs.size ≤ p → h'.get? p = some (seqObj "list" out c) → IntsAre out.toList ns' → ns'.Perm ns → ns'.Pairwise (· ≤ ·) → Q (.ref p) { s with heap := h' }) :
    wpAny (model P w) A (call (.builtin "sorted") [.ref l]) Q E s := by
  refine Calls.call_function_entry kind_sorted plain_sorted entry_sorted (args_sorted1 _) ?_
  unfold Builtin.«sorted»
  refine wpAny_bind (m := checkCount "sorted" 1 1 _) (wpAny_pure ?_)
  refine wpAny_bind (collect_tup hl hsz ?_)
  have k1 : ∀ b o, s.heap.get? b = some o → ((s.heap.push (seqObj "list" #[] 0)).update s.heap.objs.size (Obj.mapSeq (· ++ vs.toArray))).get? b = some o := fun b o q => by
    rw [Heap.get?_update_ne _ _ _ _ (Nat.ne_of_lt (Heap.lt_size q))]
    exact Heap.get?_push_of_some _ q
  have big : s.heap.objs.size ≤ ((s.heap.push (seqObj "list" #[] 0)).update s.heap.objs.size (Obj.mapSeq (· ++ vs.toArray))).objs.size := by
    rw [Heap.size_update, size_push']; omega
  generalize (s.heap.push (seqObj "list" #[] 0)).update s.heap.objs.size (Obj.mapSeq (· ++ vs.toArray)) = h1 at k1 big ⊢
  refine wpAny_bind (wpAny_newList ?_ hsz)
  have at1 : (h1.push (seqObj "list" vs.toArray 0)).get? h1.objs.size = some (seqObj "list" vs.toArray 0) := Heap.get?_push_size _ rfl
  refine wpAny_bind (wpAny_holding (wpAny_call_entry slot_list_sort ⟨_, at1, rfl⟩ entry_list_sort
    (SrtO.list_sort_ord SrtO.swo_int at1 hsz (fun h2 => SrtO.ints_sortable areI h2) fun out z1 z2 => ⟨_, rfl, ?_⟩) (args_list_sort _)))
  obtain ⟨j1, j2, j3⟩ := SrtO.ints_out areI z1 z2
  obtain ⟨c, hc⟩ := sortedHeap_at (vs := vs) (out := out.toArray) at1
  refine wpAny_pure ⟨_, rfl, fin _ h1.objs.size out.toArray c (out.map SrtO.iv) (fun b u e => ?_) big hc (by simpa using j1) j2 j3⟩
  have q := k1 b u e
  have lt := Heap.lt_size q
  rw [sortedHeap_old (Nat.ne_of_lt lt) (by rw [size_push']; exact Nat.lt_succ_of_lt lt)]
  exact Heap.get?_push_of_some _ q
end
section
variable {X : Cx}
def rSortTup (K : PySem.W.Frag) : List V → Hp → VK → Prop := fun xs H Q => ∃ (l : Addr) (ns : List Int), xs = [.ref l] ∧ SqT K H l (ns.map V.int) ∧
  ∀ (ns' : List Int) (p : Addr), ns'.Perm ns → ns'.Pairwise (· ≤ ·) → H p = none → Q (.ref p) (upd H p (.lst (ns'.map V.int)))
theorem cu_sortTup : CallR X (.builtin "sorted") (rSortTup X.K) := by
  intro pins s σ H vs us Q I r h
  obtain ⟨l, ns, rfl, hq, q⟩ := h
  rw [Vals.ref1 r]
  obtain ⟨its, rv, p, hz⟩ := I.tuple hq
  have areI : IntsAre its ns := rv.ints
  refine sorted_of_tup (show s.heap.IsTuple l its.toArray from p) (by rw [← rv.length]; exact hz) areI fun h' p' out c ns' k big got a1 a2 a3 => ?_
  have line : (ns'.map V.int).length ≤ sizeLine := by rw [List.length_map, a2.length_eq]; rw [List.length_map] at hz; exact hz
  have new : H p' = none := I.hok.fresh big
  exact ⟨.ref p', upd H p' (.lst (ns'.map V.int)), I.laid (t' := s.toks) k big ⟨line, out.toList, c, vals_of_ints a1, got⟩, rfl, q ns' p' a2 a3 new⟩
/-- sorted(d), d a dict whose keys are ints, of any size -/
def uSortDict : List V → Hp → VK → Prop := fun xs H Q => ∃ (a : Addr) (kvs : List (L2.Key × V)) (ks : List Int), xs = [.ref a] ∧ H a = some (.dK kvs) ∧ kvs.map (·.1) = ks.map Sum.inl ∧
  ∀ (ys : List Int) (p : Addr), ys.Perm ks → ys.Pairwise (· ≤ ·) → H p = none → Q (.ref p) (upd H p (.lst (ys.map V.int)))
theorem ints_each' : ∀ {us : List Value} {ks : List Int}, us.length = ks.length → (∀ (j : Nat) (v : Value), us[j]? = some v → ∃ (x : Int) (t : _), ks[j]? = some x ∧ v = .int x t) → IntsAre us ks
  | [], [], _, _ => .nil
  | u :: us, k :: ks, hl, h => by
    obtain ⟨x, t, e1, e2⟩ := h 0 u rfl
    have e1' : k = x := Option.some.inj e1
    subst e1'
    subst e2
    refine .cons _ _ (ints_each' (by simpa using hl) fun j v e => ?_)
    obtain ⟨x, t, a, b⟩ := h (j + 1) v (by simpa using e)
    exact ⟨x, t, by simpa using a, b⟩
  | [], _ :: _, hl, _ => by simp at hl
  | _ :: _, [], hl, _ => by simp at hl
theorem cu_sortDict (hcalm : X.calm = true) : CallR X (.builtin "sorted") uSortDict := by
  intro pins s σ H xs us Q I r q
  obtain ⟨a, kvs, ks, rfl, hd, hks, q⟩ := q
  rw [Vals.ref1 r]
  obtain ⟨z, lo, vs, rel, dd⟩ := dk_rd I.hok (.inl hd)
  obtain ⟨ep, hat⟩ := dd.dictAt
  have hkeys : vs.map (·.1) = ks.map Sum.inl := rel.keys.symm.trans hks
  have hl : vs.length = ks.length := by
    have e := congrArg List.length hkeys
    rw [List.length_map, List.length_map] at e
    exact e
  have h16 : vs.length ≤ sizeLine := by rw [← rel.length]; exact z
  refine Calls.call_function_entry kind_sorted plain_sorted entry_sorted (args_sorted1 _) ?_
  unfold Builtin.«sorted»
  refine wpAny_bind (m := checkCount "sorted" 1 1 _) (wpAny_pure ?_)
  refine wpAny_bind (PySem.W.kdu_collect (A := X.A.in1) (PySem.W.kdl_dict (knd := mixKind X.prog X.w) (kvs := vs) (ep := ep) lo) (I.ok.hd hcalm) hat h16 fun h' tk acc hk hacc => ?_)
  have hal : acc.toList.length = ks.length := by rw [Array.length_toList, hacc.1, hl]
  have areI : IntsAre acc.toList ks := ints_each' hal fun j v e => by
    obtain ⟨k, x, e1, e2⟩ := hacc.2 j v (by rw [← Array.getElem?_toList]; exact e)
    have e3 : (vs.map (·.1))[j]? = some k := by rw [List.getElem?_map, e1]; rfl
    rw [hkeys, List.getElem?_map] at e3
    cases e4 : ks[j]? with
    | none => rw [e4] at e3; cases e3
    | some y =>
      rw [e4] at e3
      have e5 : Sum.inl y = k := Option.some.inj e3
      subst e5
      rcases keyIs_shape (show keyIs (Sum.inl y) v = true from e2) with ⟨i, t, ek, ev⟩ | ⟨z, t, ek, ev⟩
      · cases ek
        exact ⟨y, t, rfl, ev⟩
      · cases ek
  have I1 : Inv X pins σ H { s with heap := h', toks := tk } := I.kept hk
  have hal2 : acc.toList.length ≤ sizeLine := by rw [hal, ← hl]; exact h16
  refine wpAny_bind (wpAny_newList ?_ hal2)
  have at1 : (h'.push (seqObj "list" acc.toList.toArray 0)).get? h'.objs.size = some (seqObj "list" acc.toList.toArray 0) := Heap.get?_push_size _ rfl
  show wpAny _ _ _ _ _ { s with heap := h'.push (seqObj "list" acc.toList.toArray 0), toks := tk }
  refine wpAny_bind (wpAny_holding (wpAny_call_entry slot_list_sort ⟨_, at1, rfl⟩ entry_list_sort
    (SrtO.list_sort_ord SrtO.swo_int (s := { s with heap := h'.push (seqObj "list" acc.toList.toArray 0), toks := tk }) at1 hal2 (fun h2 => SrtO.ints_sortable areI h2) fun out z1 z2 => ⟨_, rfl, ?_⟩) (args_list_sort _)))
  obtain ⟨j1, j2, j3⟩ := SrtO.ints_out areI z1 z2
  obtain ⟨c, hc⟩ := sortedHeap_at (vs := acc.toList) (out := out.toArray) at1
  have hlen : ((out.map SrtO.iv).map V.int).length ≤ sizeLine := by
    rw [List.length_map, j2.length_eq, ← hl]; exact h16
  refine wpAny_pure ⟨_, rfl, .ref h'.objs.size, upd H h'.objs.size (.lst ((out.map SrtO.iv).map V.int)), I1.laid (t' := tk) (fun b u e => ?_) (Nat.le_refl _)
    (show ObjOk X.prog X.w _ _ _ (.lst ((out.map SrtO.iv).map V.int)) from ⟨hlen, out, c, vals_of_ints j1, hc⟩), rfl, q _ _ j2 j3 (I1.hok.fresh (Nat.le_refl _))⟩
  have hb : b < h'.objs.size := Heap.lt_size e
  rw [sortedHeap_old (Nat.ne_of_lt hb) (by rw [size_push']; exact Nat.lt_succ_of_lt hb)]
  exact Heap.get?_push_of_some _ e
end
end Hm

/-! F2: rules by syntax alone (each a choice by values), and their readings. -/
namespace Hm
open PySem PySem.Spec PyProof.Rows L2

/-! ### choices by values -/
def bAdd (K : PySem.W.Frag) : R2 := fun x y H Q => rI0 (fun i j => .int (i + j)) x y H Q ∨ rCat x y H Q ∨
  (∃ i j, x = .str i ∧ y = .str j ∧ i.length + j.length ≤ sizeLine ∧ Q (.str (i ++ j)) H) ∨ rCatA K x y H Q
def bSub : R2 := rI0 fun i j => .int (i - j)
def bMul : R2 := fun x y H Q => rI CMul (fun i j => .int (i * j)) x y H Q ∨ rI CMulW (fun i j => .int (i * j)) x y H Q ∨ rRep x y H Q
def bMod : R2 := rI (fun _ j => 0 < j) fun i j => .int (i % j)
def bDiv : R2 := fun x y H Q => rI CDiv (fun i j => .int (i / j)) x y H Q ∨ rI CDivW (fun i j => .int (i / j)) x y H Q
def bPow : R2 := rI CPow fun i j => .int (i ^ j.toNat)
def bAnd : R2 := rI0 fun i j => .int (Builtin.bitAnd i j)
def bXor : R2 := rI0 fun i j => .int (Builtin.bitXor i j)
def cEq (K : PySem.W.Frag) : R2 := fun x y H Q => rEq x y H Q ∨ rEqD K x y H Q
def cNe (K : PySem.W.Frag) : R2 := fun x y H Q => rNe x y H Q ∨ rNeD K x y H Q
def cLt (K : PySem.W.Frag) : R2 := fun x y H Q => rI0 (fun i j => .bl (decide (i < j))) x y H Q ∨
  (∃ i j, x = .str i ∧ y = .str j ∧ Q (.bl (decide (i.cps.toList < j.cps.toList))) H) ∨ rLtT K x y H Q
def cLe : R2 := rI0 fun i j => .bl (decide (i ≤ j))
def cGt : R2 := rI0 fun i j => .bl (decide (j < i))
def cGe : R2 := rI0 fun i j => .bl (decide (j ≤ i))
def cIs : R2 := fun x y H Q => (y = .non ∧ Q (.bl (decide (x = .non))) H) ∨ rIsB x y H Q
def cIsNot : R2 := fun x y H Q => (y = .non ∧ Q (.bl (!decide (x = .non))) H) ∨ rNotB x y H Q
def cIn (P : Program) (w : World) (K : PySem.W.Frag) : R2 := fun x y H Q => rIn K false x y H Q ∨ rInD K x y H Q ∨ rInS x y H Q ∨ uDIn false x y H Q ∨ uNIn P w false x y H Q
def cNotIn (P : Program) (w : World) (K : PySem.W.Frag) : R2 := fun x y H Q => rIn K true x y H Q ∨ rNotInD K x y H Q ∨ rNotInS x y H Q ∨ uDIn true x y H Q ∨ uNIn P w true x y H Q
def bIx (P : Program) (w : World) (K : PySem.W.Frag) : R2 := fun x y H Q => rIxL K x y H Q ∨ rIxT K x y H Q ∨ rIxS x y H Q ∨ uDIx x y H Q ∨ uNIx P w x y H Q
def bSet (P : Program) (w : World) : TSet := fun o i v H Q => rSetL o i v H Q ∨ uDSet o i v H Q ∨ uNSet P w o i v H Q
def kLen (K : PySem.W.Frag) : List V → Hp → VK → Prop := fun xs H Q => (∃ x n, xs = [x] ∧ LenV K x H n ∧ Q (.int n) H) ∨ (∃ a kvs, xs = [V.ref a] ∧ H a = some (.dK kvs) ∧ Q (.int kvs.length) H)
def kList (K : PySem.W.Frag) : List V → Hp → VK → Prop := fun xs H Q => (∃ p ys, xs = [.ref p] ∧ (SqL K H p ys ∨ SqT K H p ys) ∧ ∀ l, H l = none → Q (.ref l) (upd H l (.lst ys))) ∨ rListD xs H Q
def kTuple (K : PySem.W.Frag) : List V → Hp → VK → Prop := fun xs H Q => ∃ p ys, xs = [.ref p] ∧ ((SqL K H p ys ∧ ∀ l, H l = none → Q (.ref l) (upd H l (.tup ys))) ∨ (SqT K H p ys ∧ Q (.ref p) H))
def kSorted (K : PySem.W.Frag) (w : World) : List V → Hp → VK → Prop := fun xs H Q => rSortedI K xs H Q ∨ uSortSet w xs H Q ∨ rSortTup K xs H Q ∨ uSortDict xs H Q
def kMax (K : PySem.W.Frag) : List V → Hp → VK → Prop := fun xs H Q => (∃ i j, xs = [.int i, .int j] ∧ Q (.int (if j > i then j else i)) H) ∨ rMax K xs H Q
def kMin (K : PySem.W.Frag) : List V → Hp → VK → Prop := fun xs H Q => (∃ i j, xs = [.int i, .int j] ∧ Q (.int (if j < i then j else i)) H) ∨ rMin K xs H Q
def kAbs : List V → Hp → VK → Prop := fun xs H Q => ∃ i, xs = [.int i] ∧ Q (.int (if i < 0 then -i else i)) H
def kInt : List V → Hp → VK → Prop := fun xs H Q => (∃ i, xs = [.int i] ∧ Q (.int i) H) ∨ ∃ k, xs = [.bl k] ∧ Q (.int (if k then 1 else 0)) H
def tTru (K : PySem.W.Frag) (ta : TE) : TT := fun σ H Q => ta σ H fun x H' => ∃ k, TruV K x H' k ∧ Q k H'
def bSl (K : PySem.W.Frag) : V → Option Int → Option Int → Hp → VK → Prop := fun x lo hi H Q => rSlL K x lo hi H Q ∨ rSlA K x lo hi H Q
/-- (a, b) = a tuple or a list of that length -/
def gSeq (K : PySem.W.Frag) (n : Nat) (t : TGs) : TG := fun v σ H Q => gTup K n t v σ H Q ∨ gUnl K n t v σ H Q
def kInsert : V → List V → Hp → VK → Prop := fun x vs H Q => ∃ (l : Addr) (xs : List V) (i : Int) (y : V), x = .ref l ∧ vs = [.int i, y] ∧ H l = some (.lst xs) ∧ xs.length < sizeLine ∧ 0 ≤ i ∧ i < 2 ^ 63 ∧
    Q .non (upd H l (.lst (xs.take i.toNat ++ [y] ++ xs.drop i.toNat)))
def kIndex (K : PySem.W.Frag) : V → List V → Hp → VK → Prop := fun x xs H Q => rIndex K x xs H Q ∨ rIndexD K x xs H Q

def rTupIndex (K : PySem.W.Frag) : V → List V → Hp → VK → Prop := fun x xs H Q => ∃ p, ∃ ys : List Str, ∃ z j, x = .ref p ∧ xs = [.str z] ∧ SqT K H p (ys.map V.str) ∧ ys[j]? = some z ∧ (∀ m, m < j → ys[m]? ≠ some z) ∧ Q (.int (j : Nat)) H

section
variable {X : Cx}
theorem hu64 {k : Nat} {A : Around} (hr : Room k A) : A.units + 64 < cLine := hr.units
theorem hu1 {k : Nat} {A : Around} (hr : Room k A) : A.units + 1 < cLine := by have := hr.un; omega
theorem hu65 {k : Nat} {A : Around} (hr : Room k A) : A.units + 65 < cLine := by have := hr.un; omega
theorem o_add : OpR X (binaryOp .Add) (bAdd X.K) := op_add.or (op_cat.or (op_add_str.or op_catA))
theorem o_sub : OpR X (binaryOp .Sub) bSub := op_sub
theorem o_mul : OpR X (binaryOp .Mult) bMul := op_mul.or (op_mulW.or op_rep)
theorem o_mod : OpR X (binaryOp .Mod) bMod := op_mod
theorem o_div : OpR X (binaryOp .FloorDiv) bDiv := op_fdiv.or op_fdivW
theorem o_pow : OpR X (binaryOp .Pow) bPow := op_pow
theorem o_and : OpR X (binaryOp .BitAnd) bAnd := op_and
theorem o_xor : OpR X (binaryOp .BitXor) bXor := op_xor
theorem o_eq (hu : X.A.units + 64 < cLine) : OpR X (compareOp .Eq) (cEq X.K) := op_eq.or (op_eqD hu)
theorem o_ne (hu : X.A.units + 64 < cLine) : OpR X (compareOp .NotEq) (cNe X.K) := op_ne.or (op_neD hu)
theorem o_lt (hu : X.A.units + 64 < cLine) : OpR X (compareOp .Lt) (cLt X.K) := op_lt.or (op_lt_str.or (op_ltT (by omega)))
theorem o_le : OpR X (compareOp .LtE) cLe := op_le
theorem o_gt : OpR X (compareOp .Gt) cGt := op_gt
theorem o_ge : OpR X (compareOp .GtE) cGe := op_ge
theorem o_is : OpR X (compareOp .Is) cIs := op_isN.or op_isBl
theorem o_isnot : OpR X (compareOp .IsNot) cIsNot := op_notN.or op_notBl
theorem o_in (hu : X.A.units + 65 < cLine) : OpR X (compareOp .In) (cIn X.prog X.w X.K) := op_in_seq.or ((op_inD hu).or (op_inS.or ((ou_din (by omega)).or (ou_nin (by omega)))))
theorem o_notin (hu : X.A.units + 65 < cLine) : OpR X (compareOp .NotIn) (cNotIn X.prog X.w X.K) := op_notIn_seq.or ((op_notInD hu).or (op_notInS.or ((ou_dnotin (by omega)).or (ou_nnotin (by omega)))))
theorem x_ix (hu : X.A.units + 64 < cLine) : IxR X (bIx X.prog X.w X.K) := ix_list.or (ix_tup.or (ix_str.or ((ix_d hu).or (ix_nd hu))))
theorem s_set (hu : X.A.units + 64 < cLine) : PSet X (bSet X.prog X.w) := PSet.or set_list (PSet.or (set_d hu) (set_nd hu))
theorem k_len : CallR X (.builtin "len") (kLen X.K) := call_len.or call_lenD
theorem k_list (hc : X.calm = true) : CallR X (.type "list") (kList X.K) := call_list_of.or (call_list_dK hc)
theorem k_tuple : CallR X (.type "tuple") (kTuple X.K) := call_tuple_of
theorem k_sorted (hc : X.calm = true) : CallR X (.builtin "sorted") (kSorted X.K X.w) := cr_sortedI.or ((cu_sortSet hc).or (cu_sortTup.or (cu_sortDict hc)))
theorem k_set (hc : X.calm = true) : CallR X (.type "set") (uSetI X.K X.w) := cu_setI hc
theorem k_max (hc : X.calm = true) : CallR X (.builtin "max") (kMax X.K) := (call_max2 hc).or (cr_max hc)
theorem k_min (hc : X.calm = true) : CallR X (.builtin "min") (kMin X.K) := (call_min2 hc).or (cr_min hc)
theorem k_abs : CallR X (.builtin "abs") kAbs := call_abs
theorem k_int : CallR X (.type "int") kInt := call_int1
theorem k_isi : CallR X (.builtin "isinstance") (rIsi X.K) := call_isi
theorem p_tru {a : Expr} {ta : TE} (ha : PE X a ta) (he : ∀ whole, isTrue a X.env whole = (do let v ← whole; standAt a.pos; holding [v] (truthy v)) := by intro _; rfl) : PT X a (tTru X.K ta) := pt_truth ha he
theorem s_sl : SlR X (bSl X.K) := sl_list.or sl_tupA
theorem g_seq {es : List Expr} {k : Nat} {t : TGs} {n : Nat} {pos : Pos} (hc : X.calm = true) (h : PGs X es t)
    (hn : (assignEach es X.env).length = n := by rfl) (hst : (assignEach es X.env).findIdx? (·.1) = none := by rfl) : PG X (.Tuple es k pos) (gSeq X.K n t) := by
  refine ⟨fun pins s σ H v u Q I r hw => ?_⟩
  rcases hw with hw | hw
  · exact (pg_tup hc h hn hst).run pins s σ H v u Q I r hw
  · exact (pg_unl hc h hn hst).run pins s σ H v u Q I r hw
/-- what a for walks, by its value -/
def kIter (K : PySem.W.Frag) (x : V) (H : Hp) (R : It → Hp → Prop) : Prop := (∃ a, x = .ref a ∧ (∃ xs, SqL K H a xs) ∧ R (Itl K a) H) ∨ (∃ a, x = .ref a ∧ (∃ xs, SqT K H a xs) ∧ R (Itt K a) H) ∨ ∃ z, x = .str z ∧ R (Its z) H
def iAny (K : PySem.W.Frag) (tl : TE) : TI := fun σ H R => tl σ H fun x H1 => kIter K x H1 R
theorem pi_any {tg l : Expr} {tl : TE} (hl : PE X l tl) : PI X tg l (iAny X.K tl) := by
  refine ⟨fun pins s σ H R I h => thn (hl.run pins s σ H _ I h) fun v s1 ⟨x, H1, I1, r1, q1⟩ => ?_⟩
  have own : ∀ {Q : Hp}, Inv X pins σ Q s1 → ∀ b ∈ [s1.heap.objs.size], FpOk X pins Q b := fun J b hb => by
    cases List.mem_singleton.mp hb
    exact J.fpOk (Nat.le_refl _) (J.hok.fresh (Nat.le_refl _))
  rcases q1 with ⟨a, rfl, ⟨xs, hq⟩, q⟩ | ⟨a, rfl, ⟨xs, hq⟩, q⟩ | ⟨z, rfl, q⟩
  · cases r1
    obtain ⟨its, rv, p, hz⟩ := I1.list hq
    exact wpAny_pyIter_list p.isList ⟨_, [s1.heap.objs.size], _, _, H1, rfl, I1.kept (t' := s1.toks) fun b o e => Heap.get?_push_of_some _ e, turn_list a _, ⟨_, Heap.get?_push_size _ rfl, rfl, rfl⟩, own I1, q⟩
  · cases r1
    obtain ⟨its, rv, p, hz⟩ := I1.tuple hq
    exact wpAny_pyIter_tuple (show s1.heap.IsTuple a its.toArray from p) ⟨_, [s1.heap.objs.size], _, _, H1, rfl, I1.kept (t' := s1.toks) fun b o e => Heap.get?_push_of_some _ e, turn_tuple a _, ⟨_, Heap.get?_push_size _ rfl, rfl, rfl⟩, own I1, q⟩
  · obtain ⟨t, rfl⟩ := r1
    cases ha : z.cps.all (· < 128)
    · exact wpAny_pyIter_wide ha (pi_one (tk := s1.toks) I1 _ (turn_str _ z t "str_iterator" (.inr rfl)) ⟨_, Heap.get?_push_size _ rfl, rfl, rfl⟩ q)
    · exact wpAny_pyIter_ascii ha (pi_one (tk := s1.toks) I1 _ (turn_str _ z t "str_ascii_iterator" (.inl rfl)) ⟨_, Heap.get?_push_size _ rfl, rfl, rfl⟩ q)
theorem mt_kindex (hu : X.A.units + 65 < cLine) : MtR X "list.index" (kIndex X.K) := mt_index.or (mt_indexD hu)
end
/-! ### defs, methods, classes of the text, by their promises -/
structure Cal (P : Program) (w : World) (K : PySem.W.Frag) (mg : Str → Option Value) (base : Heap) (CX : CXT) (k : Nat) (x : Str) (sp : Sp) : Prop where
  ex : ∃ (f : Addr) (fd : FuncData) (ps : List Str), FnOk P w K mg base CX k f fd ps sp ∧ mg x = some (.ref f) ∧ PySem.W.keepIn K (.ref f) = true ∧ Binds K fd ps []
structure Met (P : Program) (w : World) (K : PySem.W.Frag) (mg : Str → Option Value) (base : Heap) (CX : CXT) (k : Nat) (C : Addr) (m : Str) (sp : Sp) : Prop where
  ex : ∃ (f : Addr) (fd : FuncData) (ps : List Str), Cls K C ∧ Meth K C m f ∧ FnOk P w K mg base CX k f fd ps sp ∧ Binds K fd ps []
structure Mak (P : Program) (w : World) (K : PySem.W.Frag) (mg : Str → Option Value) (base : Heap) (CX : CXT) (k : Nat) (x : Str) (C : Addr) (sp : Sp) : Prop where
  ex : ∃ (f : Addr) (fd : FuncData) (ps : List Str), Mk K C f ∧ FnOk P w K mg base CX k f fd ps sp ∧ mg x = some (.ref C) ∧ Binds K fd ps []
section
variable {X : Cx} {CX : CXT} {E : XK} {k j : Nat} {C : Addr} {x m : Str} {sp : Sp} {p pos apos : Pos} {e o : Expr} {es : List Expr} {ta : TE} {t : TA}
theorem e_call (c : Cal X.prog X.w X.K X.mg X.base CX k x sp) (hr : Room j X.A) (hk : k ≤ j) (hx : Passes CX X E) (hg : Gl X x) (ha : PA X (e :: es) t)
    (hdb : (x == ("__debug__" : Str)) = false := by decide) (he : starEach (e :: es) X.env = (false, eval e X.env) :: starEach es X.env := by rfl) (hpl : (backTo pos (starEach es X.env)).any (·.1) = false := by rfl) :
    PE X (.Call (.Name x p) (e :: es) [] pos) (tCall sp [] E t) := by
  obtain ⟨f, fd, ps, F, hm, kp, b⟩ := c.ex
  exact pe_call F (hr.mono hk) hg hm kp b .nil hx ha hdb he hpl
theorem e_call0 (c : Cal X.prog X.w X.K X.mg X.base CX k x sp) (hr : Room j X.A) (hk : k ≤ j) (hx : Passes CX X E) (hg : Gl X x) (hdb : (x == ("__debug__" : Str)) = false := by decide) :
    PE X (.Call (.Name x p) [] [] pos) (tCall sp [] E tNil) := by
  obtain ⟨f, fd, ps, F, hm, kp, b⟩ := c.ex
  exact pe_call0 F (hr.mono hk) hg hm kp b .nil hx hdb
theorem e_make (c : Mak X.prog X.w X.K X.mg X.base CX k x C sp) (hr : Room j X.A) (hk : k + 1 ≤ j) (hx : Passes CX X E) (hg : Gl X x) (ha : PA X (e :: es) t)
    (hdb : (x == ("__debug__" : Str)) = false := by decide) (he : starEach (e :: es) X.env = (false, eval e X.env) :: starEach es X.env := by rfl) (hpl : (backTo pos (starEach es X.env)).any (·.1) = false := by rfl) :
    PE X (.Call (.Name x p) (e :: es) [] pos) (tMake C sp [] E t) := by
  obtain ⟨f, fd, ps, M, F, hm, b⟩ := c.ex
  exact pe_make M F (hr.mono hk) hg hm b .nil hx ha hdb he hpl
theorem e_make0 (c : Mak X.prog X.w X.K X.mg X.base CX k x C sp) (hr : Room j X.A) (hk : k + 1 ≤ j) (hx : Passes CX X E) (hg : Gl X x) (hdb : (x == ("__debug__" : Str)) = false := by decide) :
    PE X (.Call (.Name x p) [] [] pos) (tMake C sp [] E tNil) := by
  obtain ⟨f, fd, ps, M, F, hm, b⟩ := c.ex
  exact pe_make0 M F (hr.mono hk) hg hm b .nil hx hdb
theorem e_meth {pl : Sem Bool} (c : Met X.prog X.w X.K X.mg X.base CX k C m sp) (hr : Room j X.A) (hk : k ≤ j) (hx : Passes CX X E) (he : PE X o ta) (ha : PA X (e :: es) t)
    (h1 : starEach (e :: es) X.env = (false, eval e X.env) :: starEach es X.env := by rfl) (h2 : (backTo pos (starEach es X.env)).any (·.1) = false := by rfl)
    (h3 : eval (.Call (.Attribute o m apos) (e :: es) [] pos) X.env = (do let ov ← eval o X.env; standAt apos.atName; let (f, first) ← holding [ov] (getMethod ov m pl)
                                                                          callWith pos f first (backTo pos (starEach (e :: es) X.env)) (backToKw pos (keywordEach [] X.env))) := by rfl) :
    PE X (.Call (.Attribute o m apos) (e :: es) [] pos) (tMeth C m sp [] E ta t) := by
  obtain ⟨f, fd, ps, hc, hm, F, b⟩ := c.ex
  exact pe_meth (pl := pl) he hc hm F (hr.mono hk) b .nil hx ha h1 h2 h3
theorem e_meth0 {pl : Sem Bool} (c : Met X.prog X.w X.K X.mg X.base CX k C m sp) (hr : Room j X.A) (hk : k ≤ j) (hx : Passes CX X E) (he : PE X o ta)
    (h3 : eval (.Call (.Attribute o m apos) [] [] pos) X.env = (do let ov ← eval o X.env; standAt apos.atName; let (f, first) ← holding [ov] (getMethod ov m pl)
                                                                   callWith pos f first (backTo pos (starEach [] X.env)) (backToKw pos (keywordEach [] X.env))) := by rfl) :
    PE X (.Call (.Attribute o m apos) [] [] pos) (tMeth C m sp [] E ta tNil) := by
  obtain ⟨f, fd, ps, hc, hm, F, b⟩ := c.ex
  exact pe_meth0 (pl := pl) he hc hm F (hr.mono hk) b .nil hx h3
end
end Hm

/-! F3: readings, one lemma a head. -/
namespace Hm
open PySem L2

/-! ### heaps -/
/-- what stood stands, but for the cells of M -/
def Keep (M : Addr → Prop) (H H' : Hp) : Prop := ∀ a o, ¬ M a → H a = some o → H' a = some o
abbrev Nil : Addr → Prop := fun _ => False
theorem Keep.refl {M : Addr → Prop} {H : Hp} : Keep M H H := fun _ _ _ h => h
theorem Keep.trans {M : Addr → Prop} {H H1 H2 : Hp} (a : Keep M H H1) (b : Keep M H1 H2) : Keep M H H2 := fun c o n h => b c o n (a c o n h)
theorem Keep.mono {M N : Addr → Prop} {H H' : Hp} (k : Keep M H H') (s : ∀ a, M a → N a) : Keep N H H' := fun a o n h => k a o (fun z => n (s a z)) h
theorem Keep.weak {M : Addr → Prop} {H H' : Hp} (k : Keep Nil H H') : Keep M H H' := k.mono fun _ z => z.elim
theorem Keep.new {M : Addr → Prop} {H H' : Hp} {p : Addr} {o : HO} (k : Keep M H H') (hp : H' p = none) : Keep M H (upd H' p o) := fun a u n h => by
  rw [upd_ne (ne_of_none (k a u n h) hp)]; exact k a u n h
theorem Keep.alloc {M : Addr → Prop} {H : Hp} {p : Addr} {o : HO} (hp : H p = none) : Keep M H (upd H p o) := Keep.refl.new hp
theorem Keep.set {M : Addr → Prop} {H H' : Hp} {p : Addr} {o : HO} (k : Keep M H H') (hp : M p) : Keep M H (upd H' p o) := fun a u n h => by
  rw [upd_ne (fun z => n (by rw [z]; exact hp))]; exact k a u n h
/-- a cell that was new at the start may be forgotten -/
theorem Keep.hide {M : Addr → Prop} {H H' : Hp} {l : Addr} (k : Keep (fun a => M a ∨ a = l) H H') (hl : H l = none) : Keep M H H' := fun a o n h =>
  k a o (fun z => z.elim n fun e => by rw [e, hl] at h; cases h) h
theorem Keep.setN {M : Addr → Prop} {H H' : Hp} {p : Addr} {o : HO} (k : Keep M H H') (hp : H p = none) : Keep M H (upd H' p o) := fun a u n h => by
  rw [upd_ne (fun z => by rw [z, hp] at h; cases h)]; exact k a u n h
theorem Keep.get {M : Addr → Prop} {H H' : Hp} {a : Addr} {o : HO} (k : Keep M H H') (n : ¬ M a) (h : H a = some o) : H' a = some o := k a o n h
theorem is_upd {H : Hp} {p a : Addr} {o : HO} {v : Option HO} (e : upd H p o a = v) : upd H p o a = v := e
theorem upd_at {H : Hp} {p : Addr} {o o' : HO} (e : o = o') : upd H p o p = some o' := by rw [upd_same, e]
theorem get_new {H : Hp} {a p : Addr} {o u : HO} (hp : H p = none) (h : H a = some o) : upd H p u a = some o := by rw [upd_ne (ne_of_none h hp)]; exact h
theorem get_set {H : Hp} {a p : Addr} {o u : HO} (n : a ≠ p) (h : H a = some o) : upd H p u a = some o := by rw [upd_ne n]; exact h
theorem get_setK {H : Hp} {a p : Addr} {o u u0 : HO} (hp : H p = some u0) (h : H a = some o) (d : o ≠ u0) : upd H p u a = some o := get_set (ne_of h hp d) h
theorem ne_old {H : Hp} {a p : Addr} {o : HO} (hp : H p = none) (h : H a = some o) : a ≠ p := ne_of_none h hp
theorem ne_new {H : Hp} {a p : Addr} {o : HO} (hp : H p = none) (h : H a = some o) : p ≠ a := (ne_of_none h hp).symm
theorem none_of_upd {H : Hp} {a p : Addr} {o : HO} (h : upd H p o a = none) : H a = none := by
  unfold upd at h; split at h
  · cases h
  · exact h
theorem none_ne {H : Hp} {a p : Addr} {o : HO} (h : upd H p o a = none) : a ≠ p := fun z => by rw [z, upd_same] at h; cases h
theorem none_ne' {H : Hp} {a p : Addr} {o : HO} (h : upd H p o a = none) : p ≠ a := (none_ne h).symm

theorem seq_keep {K : PySem.W.Frag} {H H' : Hp} {a : Addr} {xs : List V} (k : Keep Nil H H') (h : SqL K H a xs) : SqL K H' a xs := Same.seq (fun b o e => k b o (fun z => z) e) h
theorem seq_new {K : PySem.W.Frag} {H : Hp} {a p : Addr} {o : HO} {xs : List V} (hp : H p = none) (h : SqL K H a xs) : SqL K (upd H p o) a xs := seq_keep (Keep.alloc hp) h
theorem keep_none {H H' : Hp} {p : Addr} (k : Keep Nil H H') (h : H' p = none) : H p = none := by
  cases e : H p with
  | none => rfl
  | some o => rw [k p o (fun z => z) e] at h; cases h
section
variable {P : Program} {w : World} {K : PySem.W.Frag} {σ : St} {H : Hp} {Q : VK} {D : Ends} {C : Addr} {E : XK} {sp : Sp} {f m : Str}
variable {t u tb : TS} {te ta td tv : TE} {tt : TT} {tr : TA} {g : TG} {i j : Nat} {v x y : V} {r : R2}

/-! ### constants of the text -/
theorem gint {mg : Str → Option Value} {x : Str} {i : Int} (h : ∃ t, mg x = some (.int i t)) : ∃ u, mg x = some u ∧ RelV (.int i) u := by
  obtain ⟨t, e⟩ := h
  exact ⟨_, e, t, rfl⟩
theorem gstr {mg : Str → Option Value} {x z : Str} (h : ∃ t, mg x = some (.str z t)) : ∃ u, mg x = some u ∧ RelV (.str z) u := by
  obtain ⟨t, e⟩ := h
  exact ⟨_, e, t, rfl⟩
/-! ### statements -/
theorem absQ {S : Hp → Prop} {v : V} (h : S H) (k : ∀ HT, S HT → Q v HT) : Q v H := k H h
theorem absS {S : Hp → Prop} (h : S H) (k : ∀ HT, S HT → t D σ HT) : t D σ H := k H h

theorem absT {S : Hp → Prop} {R : Bool → Hp → Prop} (h : S H) (k : ∀ HT, S HT → tt σ HT R) : tt σ H R := k H h
theorem absE {S : Hp → Prop} (h : S H) (k : ∀ HT, S HT → te σ HT Q) : te σ H Q := k H h
theorem r_seq (h : t { D with nx := u D } σ H) : tSeq t u D σ H := h
theorem r_nx {n b c : L2.St → Hp → Prop} {rt : VK} (h : n σ H) : (Ends.mk n rt b c).nx σ H := h
theorem r_rt {n b c : L2.St → Hp → Prop} {rt : VK} (h : rt v H) : (Ends.mk n rt b c).rt v H := h
theorem r_bk {n b c : L2.St → Hp → Prop} {rt : VK} (h : b σ H) : (Ends.mk n rt b c).bk σ H := h
theorem r_ct {n b c : L2.St → Hp → Prop} {rt : VK} (h : c σ H) : (Ends.mk n rt b c).ct σ H := h
theorem r_next (h : D.nx σ H) : tNext D σ H := h
theorem r_asg (h : te σ H fun x H1 => g x σ H1 D.nx) : tAsg te g D σ H := h
theorem r_gname {Q : St → Hp → Prop} (h : Q (σ.set i (some v)) H) : gName i v σ H Q := h
theorem r_drop (h : te σ H fun _ H1 => D.nx σ H1) : tDrop te D σ H := h
theorem r_ret (h : te σ H D.rt) : tRet te D σ H := h
theorem r_if (h : tt σ H fun b H1 => if b = true then t D σ H1 else u D σ H1) : tIfS tt t u D σ H := h
theorem r_brk (h : D.bk σ H) : tBreak D σ H := h
theorem r_cont (h : D.ct σ H) : tCont D σ H := h
theorem r_par {tas : TA} (h : tas σ H fun vs H1 => ∃ v w, vs = [v, w] ∧ D.nx ((σ.set i (some v)).set j (some w)) H1) : tPar i j tas D σ H := h
theorem r_par2 {v w : V} {R : V → V → Prop} (h : R v w) : ∃ v' w', [v, w] = [v', w'] ∧ R v' w' := ⟨v, w, rfl, h⟩
/-! ### tests -/
def kB (x : V) (R : Bool → Prop) : Prop := ∃ k, x = .bl k ∧ R k
theorem r_test {R : Bool → Hp → Prop} (h : te σ H fun x H' => kB x fun k => R k H') : tTest te σ H R := h
theorem r_kB {b : Bool} {R : Bool → Prop} (h : R b) : kB (.bl b) R := ⟨b, rfl, h⟩
theorem r_and {t1 t2 : TT} {R : Bool → Hp → Prop} (h : t1 σ H fun c H1 => if c = true then t2 σ H1 R else R false H1) : tAnd t1 t2 σ H R := h
theorem r_or {t1 t2 : TT} {R : Bool → Hp → Prop} (h : t1 σ H fun c H1 => if c = true then R true H1 else t2 σ H1 R) : tOr t1 t2 σ H R := h
theorem r_not {t1 : TT} {R : Bool → Hp → Prop} (h : t1 σ H fun c H1 => R (!c) H1) : tNot t1 σ H R := h
theorem r_tru {R : Bool → Hp → Prop} (h : te σ H fun x H' => ∃ k, TruV K x H' k ∧ R k H') : tTru K te σ H R := h
theorem r_tru_bl {b : Bool} {R : Bool → Prop} (h : R b) : ∃ k, TruV K (.bl b) H k ∧ R k := ⟨b, rfl, h⟩
theorem r_ite_tt {A B : Prop} (h : A) : if true = true then A else B := by rw [if_pos rfl]; exact h
theorem r_ite_ff {A B : Prop} (h : B) : if false = true then A else B := by rw [if_neg Bool.false_ne_true]; exact h
theorem r_ite {p A B : Prop} [Decidable p] (h1 : p → A) (h2 : ¬ p → B) : if decide p = true then A else B := by
  by_cases h : p
  · rw [if_pos (decide_eq_true h)]; exact h1 h
  · rw [if_neg (by simp [h])]; exact h2 h
theorem r_iteT' {p A B : Prop} [Decidable p] (c : p) (h : A) : if decide p = true then A else B := by rw [if_pos (decide_eq_true c)]; exact h
theorem r_iteF' {p A B : Prop} [Decidable p] (c : ¬ p) (h : B) : if decide p = true then A else B := by rw [if_neg (by simp [c])]; exact h
theorem r_iteNT' {p A B : Prop} [Decidable p] (c : ¬ p) (h : A) : if (!decide p) = true then A else B := by rw [if_pos (by simp [c])]; exact h
theorem r_iteNF' {p A B : Prop} [Decidable p] (c : p) (h : B) : if (!decide p) = true then A else B := by rw [if_neg (by simp [c])]; exact h
theorem r_ite_nt {A B : Prop} (h : B) : if (!true) = true then A else B := by rw [if_neg (by simp)]; exact h
theorem r_ite_nf {A B : Prop} (h : A) : if (!false) = true then A else B := by rw [if_pos (by simp)]; exact h
theorem r_iteN {p A B : Prop} [Decidable p] (h1 : ¬ p → A) (h2 : p → B) : if (!decide p) = true then A else B := by
  by_cases h : p
  · rw [if_neg (by simp [h])]; exact h2 h
  · rw [if_pos (by simp [h])]; exact h1 h
theorem r_iteB {b : Bool} {A B : Prop} (h1 : b = true → A) (h2 : b = false → B) : if b = true then A else B := by
  cases b
  · exact r_ite_ff (h2 rfl)
  · exact r_ite_tt (h1 rfl)
theorem r_iteNB {b : Bool} {A B : Prop} (h1 : b = false → A) (h2 : b = true → B) : if (!b) = true then A else B := by
  cases b
  · exact r_ite_tt (h1 rfl)
  · exact r_ite_ff (h2 rfl)
theorem r_ite_if {b : Bool} {A B : Prop} (hb : b = true) (h : A) : if b = true then A else B := by rw [if_pos hb]; exact h
theorem r_ite_else {b : Bool} {A B : Prop} (hb : b = false) (h : B) : if b = true then A else B := by rw [hb, if_neg Bool.false_ne_true]; exact h
/-! ### values -/
theorem r_var (h : σ[i]? = some (some v)) (k : Q v H) : tVar i σ H Q := ⟨v, h, k⟩
theorem r_c (k : Q v H) : tC v σ H Q := k
theorem r_op (k : ta σ H fun x H1 => te σ H1 fun y H2 => r x y H2 Q) : tOp r ta te σ H Q := k
theorem r_un {q : V → Hp → VK → Prop} (k : ta σ H fun x H1 => q x H1 Q) : tUn q ta σ H Q := k
theorem r_rU {gI : Int → V} {z : Int} (k : Q (gI z) H) : rU gI (.int z) H Q := ⟨z, rfl, k⟩
theorem r_nil {R : List V → Hp → Prop} (k : R [] H) : tNil σ H R := k
theorem r_cons {R : List V → Hp → Prop} (k : te σ H fun x H1 => tr σ H1 fun xs H2 => R (x :: xs) H2) : tCons te tr σ H R := k
theorem r_cb {q : List V → Hp → VK → Prop} (k : tr σ H fun vs H1 => q vs H1 Q) : tCB q tr σ H Q := k
theorem r_call (k : tr σ H fun vs H1 => sp vs H1 Q E) : tCall sp [] E tr σ H Q := by
  have e : (fun vs H1 => sp (vs ++ []) H1 Q E) = fun vs H1 => sp vs H1 Q E := by funext vs H1; rw [List.append_nil]
  show tr σ H fun vs H1 => sp (vs ++ []) H1 Q E
  rw [e]; exact k
def kMeth (C : Addr) (m : Str) (sp : Sp) (E : XK) (tr : TA) (σ : St) (x : V) (H : Hp) (Q : VK) : Prop := ∃ a dx fs, x = .ref a ∧ H a = some (.ins C dx fs) ∧ fs.lookup m = none ∧ tr σ H fun vs H2 => sp (x :: vs) H2 Q E
theorem r_meth (k : ta σ H fun x H1 => kMeth C m sp E tr σ x H1 Q) : tMeth C m sp [] E ta tr σ H Q := by
  have e : ∀ x, (fun vs H1 => sp (x :: (vs ++ [])) H1 Q E) = fun vs H1 => sp (x :: vs) H1 Q E := fun x => by funext vs H1; rw [List.append_nil]
  show ta σ H fun x H1 => ∃ a dx fs, x = .ref a ∧ H1 a = some (.ins C dx fs) ∧ fs.lookup m = none ∧ tr σ H1 fun vs H2 => sp (x :: (vs ++ [])) H2 Q E
  simp only [e]; exact k
theorem r_kmeth {a dx : Addr} {fs : List (Str × V)} (h : H a = some (.ins C dx fs)) (l : fs.lookup m = none) (k : tr σ H fun vs H2 => sp (.ref a :: vs) H2 Q E) : kMeth C m sp E tr σ (.ref a) H Q := ⟨a, dx, fs, rfl, h, l, k⟩
theorem r_make (k : tr σ H fun vs H1 => ∀ x dx, H1 x = none → H1 dx = none → dx ≠ x → sp (.ref x :: vs) (upd (upd H1 dx (.own x)) x (.ins C dx [])) (fun v H2 => v = .non ∧ Q (.ref x) H2) E) : tMake C sp [] E tr σ H Q := by
  have e : ∀ (x : Addr) (S : VK), (fun vs H1 => sp (.ref x :: (vs ++ [])) H1 S E) = fun vs H1 => sp (.ref x :: vs) H1 S E := fun x S => by funext vs H1; rw [List.append_nil]
  show tr σ H fun vs H1 => ∀ x dx, H1 x = none → H1 dx = none → dx ≠ x → sp (.ref x :: (vs ++ [])) (upd (upd H1 dx (.own x)) x (.ins C dx [])) (fun v H2 => v = .non ∧ Q (.ref x) H2) E
  simp only [List.append_nil]; exact k
def kFld (K : PySem.W.Frag) (f : Str) (x : V) (H : Hp) (Q : VK) : Prop := ∃ a C dx fs v, x = .ref a ∧ H a = some (.ins C dx fs) ∧ Cls K C ∧ NoAttr K C f ∧ fs.lookup f = some v ∧ Q v H
theorem r_fld (k : ta σ H fun x H1 => kFld K f x H1 Q) : tFld K ta f σ H Q := k
theorem r_kfld {a dx : Addr} {fs : List (Str × V)} (h : H a = some (.ins C dx fs)) (c : Cls K C) (n : NoAttr K C f) (l : fs.lookup f = some v) (k : Q v H) : kFld K f (.ref a) H Q := ⟨a, C, dx, fs, v, rfl, h, c, n, l, k⟩
def kSFld (K : PySem.W.Frag) (f : Str) (x y : V) (H : Hp) (R : Hp → Prop) : Prop := ∃ a C dx fs, x = .ref a ∧ H a = some (.ins C dx fs) ∧ Cls K C ∧ NoAttr K C f ∧ fs.length < 1000 ∧ R (upd H a (.ins C dx (putF f y fs)))
theorem r_sfld (k : tv σ H fun y H1 => ta σ H1 fun x H2 => kSFld K f x y H2 fun H3 => D.nx σ H3) : sFld K ta tv f D σ H := k
theorem r_ksfld {a dx : Addr} {fs : List (Str × V)} {R : Hp → Prop} (h : H a = some (.ins C dx fs)) (c : Cls K C) (n : NoAttr K C f) (l : fs.length < 1000) (k : R (upd H a (.ins C dx (putF f y fs)))) : kSFld K f (.ref a) y H R := ⟨a, C, dx, fs, rfl, h, c, n, l, k⟩
def kTup (xs : List V) (H : Hp) (Q : VK) : Prop := xs.length ≤ sizeLine ∧ ∀ p, H p = none → Q (.ref p) (upd H p (.tup xs))
def kLst (xs : List V) (H : Hp) (Q : VK) : Prop := xs.length ≤ sizeLine ∧ ∀ p, H p = none → Q (.ref p) (upd H p (.lst xs))
theorem r_tup (k : tr σ H fun xs H1 => kTup xs H1 Q) : tTup tr σ H Q := k
theorem r_lst (k : tr σ H fun xs H1 => kLst xs H1 Q) : tLst tr σ H Q := k
theorem few {n : Nat} (h : n ≤ 100) : n ≤ sizeLine := by rw [sizeLine_eq]; omega
theorem few1 {n : Nat} (h : n ≤ 100000) : n < sizeLine := by rw [sizeLine_eq]; omega
theorem few2 {n : Nat} (h : n ≤ 100000) : n ≤ sizeLine := by rw [sizeLine_eq]; omega
theorem r_ktup {xs : List V} (l : xs.length ≤ 100) (k : ∀ p, H p = none → Q (.ref p) (upd H p (.tup xs))) : kTup xs H Q := ⟨few l, k⟩
theorem r_klst {xs : List V} (l : xs.length ≤ 100) (k : ∀ p, H p = none → Q (.ref p) (upd H p (.lst xs))) : kLst xs H Q := ⟨few l, k⟩
theorem r_sl {q : V → Option Int → Option Int → Hp → VK → Prop} {tl th : TO} (k : te σ H fun x H1 => tl σ H1 fun l H2 => th σ H2 fun u H3 => q x l u H3 Q) : tSl q te tl th σ H Q := k
theorem r_nopart {R : Option Int → Hp → Prop} (k : R none H) : tNoPart σ H R := k
def kI (x : V) (R : Int → Prop) : Prop := ∃ i, x = .int i ∧ R i
theorem r_part {R : Option Int → Hp → Prop} (k : te σ H fun x H1 => kI x fun i => R (some i) H1) : tPart te σ H R := k
theorem r_kI {z : Int} {R : Int → Prop} (h : R z) : kI (.int z) R := ⟨z, rfl, h⟩
def kBM (K : PySem.W.Frag) (T : String) (q : V → List V → Hp → VK → Prop) (tr : TA) (σ : St) (x : V) (H : Hp) (Q : VK) : Prop := tyV K T x H ∧ tr σ H fun xs H2 => q x xs H2 Q
theorem r_bm {T : String} {q : V → List V → Hp → VK → Prop} (k : ta σ H fun x H1 => kBM K T q tr σ x H1 Q) : tBM K T q ta tr σ H Q := k
theorem r_bm0 {T : String} {q : V → List V → Hp → VK → Prop} (k : ta σ H fun x H1 => kBM K T q tNil σ x H1 Q) : tBM0 K T q ta σ H Q := k
theorem r_kbm_l {q : V → List V → Hp → VK → Prop} {l : Addr} {xs : List V} (h : H l = some (.lst xs)) (k : tr σ H fun xs H2 => q (.ref l) xs H2 Q) : kBM K "list" q tr σ (.ref l) H Q := ⟨.inl ⟨rfl, xs, SqL.of h⟩, k⟩
theorem r_revL {l : Addr} {xs : List V} (k : te σ H fun x H1 => x = .ref l ∧ H1 l = some (.lst xs) ∧ ∀ p, H1 p = none → Q (.ref p) (upd H1 p (.lst xs.reverse))) (mono : ∀ S S' : VK, (∀ x H, S x H → S' x H) → te σ H S → te σ H S') : tRevL K te σ H Q :=
  mono _ _ (fun x H1 h => ⟨l, xs, h.1, SqL.of h.2.1, h.2.2⟩) k
def kRev (K : PySem.W.Frag) (x : V) (H : Hp) (Q : VK) : Prop := ∃ a xs, x = .ref a ∧ SqL K H a xs ∧ ∀ p, H p = none → Q (.ref p) (upd H p (.lst xs.reverse))
theorem r_rev (k : te σ H fun x H1 => kRev K x H1 Q) : tRevL K te σ H Q := k
theorem r_krev {l : Addr} {xs : List V} (h : H l = some (.lst xs)) (k : ∀ p, H p = none → Q (.ref p) (upd H p (.lst xs.reverse))) : kRev K (.ref l) H Q := ⟨l, xs, rfl, SqL.of h, k⟩
def kNotV (x : V) (R : Bool → Prop) : Prop := kB x R
theorem r_notV (k : ta σ H fun x H1 => kB x fun b => Q (.bl (!b)) H1) : tNotV ta σ H Q := k
theorem r_andV (k : ta σ H fun x H1 => kB x fun b => if b = true then te σ H1 Q else Q (.bl false) H1) : tAndV ta te σ H Q := k
theorem r_orV (k : ta σ H fun x H1 => kB x fun b => if b = true then Q (.bl true) H1 else te σ H1 Q) : tOrV ta te σ H Q := k
theorem r_chain {r' : R2} {tc : TE} (k : ta σ H fun x H1 => te σ H1 fun y H2 => r x y H2 fun z H3 => kB z fun b => if b = true then tc σ H3 fun w' H4 => r' y w' H4 Q else Q (.bl false) H3) : tChain r r' ta te tc σ H Q := k
theorem r_gsub {tsv : TSet} {R : St → Hp → Prop} (k : ta σ H fun o H1 => te σ H1 fun i H2 => tsv o i v H2 fun H3 => R σ H3) : gSub ta te tsv v σ H R := k
/-! ### operators by values -/
variable {a b : Int} {l l' p q : Addr} {xs zs : List V}
theorem v_add (k : Q (.int (a + b)) H) : bAdd K (.int a) (.int b) H Q := .inl ⟨a, b, rfl, rfl, k⟩
theorem v_addL (h1 : H l = some (.lst xs)) (h2 : H l' = some (.lst zs)) (n : xs.length + zs.length ≤ sizeLine) (k : ∀ p, H p = none → Q (.ref p) (upd H p (.lst (xs ++ zs)))) : bAdd K (.ref l) (.ref l') H Q := .inr (.inl ⟨l, l', xs, zs, rfl, rfl, h1, h2, n, k⟩)
theorem v_addS {s z : Str} (n : s.length + z.length ≤ sizeLine) (k : Q (.str (s ++ z)) H) : bAdd K (.str s) (.str z) H Q := .inr (.inr (.inl ⟨s, z, rfl, rfl, n, k⟩))
theorem v_addT (h1 : H l = some (.tup xs)) (h2 : H l' = some (.tup zs)) (n : xs.length + zs.length ≤ sizeLine) (k : ∀ p H', H' p = some (.tup (xs ++ zs)) → Keep Nil H H' → Q (.ref p) H') : bAdd K (.ref l) (.ref l') H Q := by
  refine .inr (.inr (.inr ⟨l, l', xs, zs, rfl, rfl, SqT.of h1, SqT.of h2, n, fun e => ?_, fun _ e => ?_, fun _ _ p hp => k p _ upd_same (Keep.alloc hp)⟩))
  · subst e; exact k l' H (by simpa using h2) Keep.refl
  · subst e; exact k l H (by simpa using h1) Keep.refl
theorem v_sub (k : Q (.int (a - b)) H) : bSub (.int a) (.int b) H Q := ⟨a, b, rfl, rfl, k⟩
theorem v_mul (n : -(2 ^ 64) < a ∧ a < 2 ^ 64) (k : Q (.int (a * b)) H) : bMul (.int a) (.int b) H Q := .inl ⟨a, b, rfl, rfl, .inl n, k⟩
theorem v_mulR (n : -(2 ^ 64) < b ∧ b < 2 ^ 64) (k : Q (.int (a * b)) H) : bMul (.int a) (.int b) H Q := .inl ⟨a, b, rfl, rfl, .inr n, k⟩
theorem v_mulW (n : CMulW a b) (k : Q (.int (a * b)) H) : bMul (.int a) (.int b) H Q := .inr (.inl ⟨a, b, rfl, rfl, n, k⟩)
theorem v_mulL (h : H l = some (.lst xs)) (n : -(2 ^ 63) ≤ a ∧ a < 2 ^ 63 ∧ xs.length * a.toNat ≤ sizeLine) (k : ∀ p, H p = none → Q (.ref p) (upd H p (.lst (List.replicate a.toNat xs).flatten))) : bMul (.ref l) (.int a) H Q :=
  .inr (.inr ⟨l, a, xs, rfl, rfl, h, n.1, n.2.1, n.2.2, k⟩)
theorem v_mod (n : 0 < b) (k : Q (.int (a % b)) H) : bMod (.int a) (.int b) H Q := ⟨a, b, rfl, rfl, n, k⟩
theorem v_div (n : 0 < b ∧ b < 1073741824) (k : Q (.int (a / b)) H) : bDiv (.int a) (.int b) H Q := .inl ⟨a, b, rfl, rfl, n, k⟩
theorem v_divW (n : CDivW a b) (k : Q (.int (a / b)) H) : bDiv (.int a) (.int b) H Q := .inr ⟨a, b, rfl, rfl, n, k⟩
theorem v_pow (n : CPow a b) (k : Q (.int (a ^ b.toNat)) H) : bPow (.int a) (.int b) H Q := ⟨a, b, rfl, rfl, n, k⟩
theorem v_eq (k : Q (.bl (decide (a = b))) H) : cEq K (.int a) (.int b) H Q := .inl ⟨rfl, by
  have e : decide (V.int a = V.int b) = decide (a = b) := by
    by_cases h : a = b
    · subst h; simp
    · rw [decide_eq_false h, decide_eq_false (fun z => h (V.int.inj z))]
  rw [e]; exact k⟩
theorem v_eqS {s z : Str} (k : Q (.bl (decide (s = z))) H) : cEq K (.str s) (.str z) H Q := .inl ⟨rfl, by
  have e : decide (V.str s = V.str z) = decide (s = z) := by
    by_cases h : s = z
    · subst h; simp
    · rw [decide_eq_false h, decide_eq_false (fun z => h (V.str.inj z))]
  rw [e]; exact k⟩
theorem v_ne (k : Q (.bl (!decide (a = b))) H) : cNe K (.int a) (.int b) H Q := .inl ⟨rfl, by
  have e : decide (V.int a = V.int b) = decide (a = b) := by
    by_cases h : a = b
    · subst h; simp
    · rw [decide_eq_false h, decide_eq_false (fun z => h (V.int.inj z))]
  rw [e]; exact k⟩
theorem v_neS {s z : Str} (k : Q (.bl (!decide (s = z))) H) : cNe K (.str s) (.str z) H Q := .inl ⟨rfl, by
  have e : decide (V.str s = V.str z) = decide (s = z) := by
    by_cases h : s = z
    · subst h; simp
    · rw [decide_eq_false h, decide_eq_false (fun z => h (V.str.inj z))]
  rw [e]; exact k⟩
theorem v_eqD {d e : PyData} (h1 : Dp K H x d) (h2 : Dp K H y e) (s1 : SeqAt.shaped d = true) (s2 : SeqAt.shaped e = true) (k : Q (.bl (PyData.eqv d e)) H) : cEq K x y H Q := .inr ⟨d, e, h1, h2, s1, s2, k⟩
theorem v_neD {d e : PyData} (h1 : Dp K H x d) (h2 : Dp K H y e) (s1 : SeqAt.shaped d = true) (s2 : SeqAt.shaped e = true) (k : Q (.bl (!PyData.eqv d e)) H) : cNe K x y H Q := .inr ⟨d, e, h1, h2, s1, s2, k⟩
theorem v_lt (k : Q (.bl (decide (a < b))) H) : cLt K (.int a) (.int b) H Q := .inl ⟨a, b, rfl, rfl, k⟩
theorem v_le (k : Q (.bl (decide (a ≤ b))) H) : cLe (.int a) (.int b) H Q := ⟨a, b, rfl, rfl, k⟩
theorem v_gt (k : Q (.bl (decide (b < a))) H) : cGt (.int a) (.int b) H Q := ⟨a, b, rfl, rfl, k⟩
theorem v_ge (k : Q (.bl (decide (b ≤ a))) H) : cGe (.int a) (.int b) H Q := ⟨a, b, rfl, rfl, k⟩
theorem v_isN (k : Q (.bl (decide (x = .non))) H) : cIs x .non H Q := .inl ⟨rfl, k⟩
theorem v_notN (k : Q (.bl (!decide (x = .non))) H) : cIsNot x .non H Q := .inl ⟨rfl, k⟩
theorem v_isB {c d : Bool} (k : Q (.bl (decide (c = d))) H) : cIs (.bl c) (.bl d) H Q := .inr ⟨c, d, rfl, rfl, k⟩
theorem v_notB {c d : Bool} (k : Q (.bl (!decide (c = d))) H) : cIsNot (.bl c) (.bl d) H Q := .inr ⟨c, d, rfl, rfl, k⟩
theorem v_ixL (h : H l = some (.lst xs)) (n : atI xs a = some v) (k : Q v H) : bIx P w K (.ref l) (.int a) H Q := .inl ⟨l, xs, a, v, rfl, rfl, SqL.of h, n, k⟩
theorem v_ixK (h : SqL K H l xs) (n : atI xs a = some v) (k : Q v H) : bIx P w K (.ref l) (.int a) H Q := .inl ⟨l, xs, a, v, rfl, rfl, h, n, k⟩
theorem v_ixT (h : H l = some (.tup xs)) (n : atI xs a = some v) (k : Q v H) : bIx P w K (.ref l) (.int a) H Q := .inr (.inl ⟨l, xs, a, v, rfl, rfl, SqT.of h, n, k⟩)
theorem v_setL {R : Hp → Prop} {jj : Nat} (h : H l = some (.lst xs)) (n : ixN xs.length a = some jj) (k : R (upd H l (.lst (xs.set jj v)))) : bSet P w (.ref l) (.int a) v H R := .inl ⟨l, xs, a, jj, rfl, rfl, h, n, k⟩
theorem v_lenL (h : H l = some (.lst xs)) (k : Q (.int xs.length) H) : kLen K [.ref l] H Q := .inl ⟨.ref l, xs.length, rfl, .inl ⟨xs, SqL.of h, rfl⟩, k⟩
theorem v_lenK (h : SqL K H l xs) (k : Q (.int xs.length) H) : kLen K [.ref l] H Q := .inl ⟨.ref l, xs.length, rfl, .inl ⟨xs, h, rfl⟩, k⟩
theorem v_lenT (h : H l = some (.tup xs)) (k : Q (.int xs.length) H) : kLen K [.ref l] H Q := .inl ⟨.ref l, xs.length, rfl, .inr ⟨xs, SqT.of h, rfl⟩, k⟩
theorem v_int (k : Q (.int a) H) : kInt [.int a] H Q := .inl ⟨a, rfl, k⟩
theorem v_intB {c : Bool} (k : Q (.int (if c then 1 else 0)) H) : kInt [.bl c] H Q := .inr ⟨c, rfl, k⟩
theorem v_max (k : Q (.int (if b > a then b else a)) H) : kMax K [.int a, .int b] H Q := .inl ⟨a, b, rfl, k⟩
theorem v_min (k : Q (.int (if b < a then b else a)) H) : kMin K [.int a, .int b] H Q := .inl ⟨a, b, rfl, k⟩
theorem v_maxL {ns : List Int} (h : H l = some (.lst (ns.map V.int))) (n : 0 < ns.length) (k : ∀ m, m ∈ ns → (∀ y, y ∈ ns → y ≤ m) → Q (.int m) H) : kMax K [.ref l] H Q := .inr ⟨l, ns, rfl, SqL.of h, n, k⟩
theorem v_abs (k : Q (.int (if a < 0 then -a else a)) H) : kAbs [.int a] H Q := ⟨a, rfl, k⟩
theorem v_listL (h : H l = some (.lst xs)) (k : ∀ p, H p = none → Q (.ref p) (upd H p (.lst xs))) : kList K [.ref l] H Q := .inl ⟨l, xs, rfl, .inl (SqL.of h), k⟩
theorem v_listT (h : H l = some (.tup xs)) (k : ∀ p, H p = none → Q (.ref p) (upd H p (.lst xs))) : kList K [.ref l] H Q := .inl ⟨l, xs, rfl, .inr (SqT.of h), k⟩
theorem v_tupleL (h : H l = some (.lst xs)) (k : ∀ p, H p = none → Q (.ref p) (upd H p (.tup xs))) : kTuple K [.ref l] H Q := ⟨l, xs, rfl, .inl ⟨SqL.of h, k⟩⟩
theorem v_sortedL {ns : List Int} (h : H l = some (.lst (ns.map V.int))) (k : ∀ (ns' : List Int) (p : Addr), ns'.Perm ns → ns'.Pairwise (· ≤ ·) → H p = none → Q (.ref p) (upd H p (.lst (ns'.map V.int)))) : kSorted K w [.ref l] H Q := .inl ⟨l, ns, rfl, SqL.of h, k⟩
theorem v_sortedS {S : Int → Bool} {n : Nat} (h : H l = some (SetO w l S n)) (k : ∀ (ns : List Int) (p : Addr), ns.Pairwise (· < ·) → (∀ z : Int, z ∈ ns ↔ S z = true) → ns.length = n → H p = none → Q (.ref p) (upd H p (.lst (ns.map V.int)))) : kSorted K w [.ref l] H Q := .inr (.inl ⟨l, S, n, rfl, h, k⟩)
theorem v_sortedT {ns : List Int} (h : H l = some (.tup (ns.map V.int))) (k : ∀ (ns' : List Int) (p : Addr), ns'.Perm ns → ns'.Pairwise (· ≤ ·) → H p = none → Q (.ref p) (upd H p (.lst (ns'.map V.int)))) : kSorted K w [.ref l] H Q := .inr (.inr (.inl ⟨l, ns, rfl, SqT.of h, k⟩))
theorem v_sortedD {kvs : List (L2.Key × V)} {ks : List Int} (h : H l = some (.dK kvs)) (e : kvs.map (·.1) = ks.map Sum.inl) (k : ∀ (ns' : List Int) (p : Addr), ns'.Perm ks → ns'.Pairwise (· ≤ ·) → H p = none → Q (.ref p) (upd H p (.lst (ns'.map V.int)))) : kSorted K w [.ref l] H Q := .inr (.inr (.inr ⟨l, kvs, ks, rfl, h, e, k⟩))
theorem v_set {ns : List Int} (h : H l = some (.lst (ns.map V.int))) (n : ns.length ≤ 4000) (k : ∀ (p : Addr) (c : Nat), H p = none → c ≤ ns.length → Q (.ref p) (upd H p (SetO w p (fun j => decide (j ∈ ns)) c))) : uSetI K w [.ref l] H Q := ⟨l, ns, rfl, SqL.of h, n, k⟩
theorem v_append (h : H l = some (.lst xs)) (n : xs.length < sizeLine) (k : Q .non (upd H l (.lst (xs ++ [v])))) : rAppend (.ref l) [v] H Q := ⟨l, xs, v, rfl, rfl, h, n, k⟩
theorem v_clear (h : H l = some (.lst xs)) (k : Q .non (upd H l (.lst []))) : rClear (.ref l) [] H Q := ⟨l, xs, rfl, rfl, h, k⟩
theorem v_insert (h : H l = some (.lst xs)) (n : xs.length < sizeLine) (z : 0 ≤ a ∧ a < 2 ^ 63) (k : Q .non (upd H l (.lst (xs.take a.toNat ++ [v] ++ xs.drop a.toNat)))) : kInsert (.ref l) [.int a, v] H Q := ⟨l, xs, a, v, rfl, rfl, h, n, z.1, z.2, k⟩
theorem v_slL {lo hi : Option Int} (h : H l = some (.lst xs)) (k : ∀ p, H p = none → Q (.ref p) (upd H p (.lst (cutV xs lo hi)))) : bSl K (.ref l) lo hi H Q := .inl ⟨l, xs, rfl, SqL.of h, k⟩
theorem v_isi {t u : Value} {c : V} {b : Bool} (c1 : ClsV c u) (c2 : TyX K H x t) (e : PySem.W.kitOne K t u = some b) (k : Q (.bl b) H) : rIsi K [x, c] H Q := ⟨x, c, t, u, b, rfl, c1, c2, e, k⟩
theorem v_isiI {n : String} {b : Bool} (e : kitB "int" n = some b) (k : Q (.bl b) H) : rIsi K [.int a, .ty n] H Q := v_isi (.ty n) (.base (.int _)) (kit_ty e) k
theorem v_isiB {n : String} {c b : Bool} (e : kitB "bool" n = some b) (k : Q (.bl b) H) : rIsi K [.bl c, .ty n] H Q := v_isi (.ty n) (.base (.bl _)) (kit_ty e) k
theorem v_isiL {n : String} {b : Bool} (h : H l = some (.lst xs)) (e : kitB "list" n = some b) (k : Q (.bl b) H) : rIsi K [.ref l, .ty n] H Q := v_isi (.ty n) (.base (.lst h)) (kit_ty e) k
theorem v_isiT {n : String} {b : Bool} (h : H l = some (.tup xs)) (e : kitB "tuple" n = some b) (k : Q (.bl b) H) : rIsi K [.ref l, .ty n] H Q := v_isi (.ty n) (.base (.tup h)) (kit_ty e) k
theorem v_isiS {n : String} {s : Str} {b : Bool} (e : kitB "str" n = some b) (k : Q (.bl b) H) : rIsi K [.str s, .ty n] H Q := v_isi (.ty n) (.base (.str _)) (kit_ty e) k
theorem kit_int_int : kitB "int" "int" = some true := by decide +kernel
theorem kit_int_bool : kitB "int" "bool" = some false := by decide +kernel
theorem kit_int_list : kitB "int" "list" = some false := by decide +kernel
theorem kit_int_tuple : kitB "int" "tuple" = some false := by decide +kernel
theorem kit_int_str : kitB "int" "str" = some false := by decide +kernel
theorem kit_bool_int : kitB "bool" "int" = some true := by decide +kernel
theorem kit_bool_bool : kitB "bool" "bool" = some true := by decide +kernel
theorem kit_bool_list : kitB "bool" "list" = some false := by decide +kernel
theorem kit_bool_tuple : kitB "bool" "tuple" = some false := by decide +kernel
theorem kit_bool_str : kitB "bool" "str" = some false := by decide +kernel
theorem kit_list_int : kitB "list" "int" = some false := by decide +kernel
theorem kit_list_bool : kitB "list" "bool" = some false := by decide +kernel
theorem kit_list_list : kitB "list" "list" = some true := by decide +kernel
theorem kit_list_tuple : kitB "list" "tuple" = some false := by decide +kernel
theorem kit_list_str : kitB "list" "str" = some false := by decide +kernel
theorem kit_tuple_int : kitB "tuple" "int" = some false := by decide +kernel
theorem kit_tuple_bool : kitB "tuple" "bool" = some false := by decide +kernel
theorem kit_tuple_list : kitB "tuple" "list" = some false := by decide +kernel
theorem kit_tuple_tuple : kitB "tuple" "tuple" = some true := by decide +kernel
theorem kit_tuple_str : kitB "tuple" "str" = some false := by decide +kernel
theorem kit_str_int : kitB "str" "int" = some false := by decide +kernel
theorem kit_str_bool : kitB "str" "bool" = some false := by decide +kernel
theorem kit_str_list : kitB "str" "list" = some false := by decide +kernel
theorem kit_str_tuple : kitB "str" "tuple" = some false := by decide +kernel
theorem kit_str_str : kitB "str" "str" = some true := by decide +kernel
theorem kit_NoneType_int : kitB "NoneType" "int" = some false := by decide +kernel
theorem kit_NoneType_bool : kitB "NoneType" "bool" = some false := by decide +kernel
theorem kit_NoneType_list : kitB "NoneType" "list" = some false := by decide +kernel
theorem kit_NoneType_tuple : kitB "NoneType" "tuple" = some false := by decide +kernel
theorem kit_NoneType_str : kitB "NoneType" "str" = some false := by decide +kernel
theorem kit_dict_int : kitB "dict" "int" = some false := by decide +kernel
theorem kit_dict_bool : kitB "dict" "bool" = some false := by decide +kernel
theorem kit_dict_list : kitB "dict" "list" = some false := by decide +kernel
theorem kit_dict_tuple : kitB "dict" "tuple" = some false := by decide +kernel
theorem kit_dict_str : kitB "dict" "str" = some false := by decide +kernel
/-! ### loops -/
def kFor (J : It) (g : TG) (tb : TS) (D : Ends) (σ : St) (H : Hp) : Prop := ∃ W : Nat → Nat → St → Hp → Prop, (∃ m, W 0 m σ H) ∧ ∀ i m σ H, W i m σ H →
  (J.stop i H ∧ D.nx σ H) ∨ (J.go i H ∧ ∃ N : St → Hp → Prop, (∀ σ' H', N σ' H' → ∃ m', m' < m ∧ W (i + 1) m' σ' H') ∧ ∀ x H', J.yld i H x H' → g x σ H' fun σ2 H2 => tb { D with nx := N, ct := N, bk := D.nx } σ2 H2)
theorem r_for {wi : TI} (k : wi σ H fun J H1 => kFor J g tb D σ H1) : tFor wi g tb D σ H := k
def kRng1 (vs : List V) (H : Hp) (R : It → Hp → Prop) : Prop := ∃ j : Int, vs = [.int j] ∧ -(2 ^ 62) ≤ j ∧ j < 2 ^ 62 ∧ R (Itr 0 j.toNat) H
theorem r_rng1 {R : It → Hp → Prop} (k : tr σ H fun vs H1 => kRng1 vs H1 R) : iRng1 tr σ H R := k
theorem r_krng1 {R : It → Hp → Prop} (n : -(2 ^ 62) ≤ a ∧ a < 2 ^ 62) (k : R (Itr 0 a.toNat) H) : kRng1 [.int a] H R := ⟨a, rfl, n.1, n.2, k⟩
theorem r_iany {R : It → Hp → Prop} (k : te σ H fun x H1 => kIter K x H1 R) : iAny K te σ H R := k
theorem r_kiterL {R : It → Hp → Prop} (h : H l = some (.lst xs)) (k : R (Itl K l) H) : kIter K (.ref l) H R := .inl ⟨l, rfl, ⟨xs, SqL.of h⟩, k⟩
theorem r_kiterT {R : It → Hp → Prop} (h : H l = some (.tup xs)) (k : R (Itt K l) H) : kIter K (.ref l) H R := .inr (.inl ⟨l, rfl, ⟨xs, SqT.of h⟩, k⟩)
def kLc (J : It) (g : TG) (tt : TT) (te : TE) (vs : List Nat) (σ : St) (H1 : Hp) (Q : VK) : Prop := ∀ D, H1 D = none → ∃ W : Nat → Nat → Hp → Prop, (∃ m, W 0 m (upd H1 D (.lst []))) ∧ ∀ i m H, W i m H →
  (J.stop i H ∧ Q (.ref D) H) ∨ (J.go i H ∧ ∃ Nx : Hp → Prop, (∀ H', Nx H' → ∃ m', m' < m ∧ W (i + 1) m' H') ∧ ∀ x H', J.yld i H x H' → g x (wipe σ vs) H' fun σ2 H2 => wipe σ2 vs = wipe σ vs ∧ tt σ2 H2 fun b H3 =>
    if b = true then te σ2 H3 fun y H4 => ∃ acc, H4 D = some (.lst acc) ∧ acc.length < sizeLine ∧ Nx (upd H4 D (.lst (acc ++ [y]))) else Nx H3)
theorem r_lc {wi : TI} {vs : List Nat} (k : wi σ H fun J H1 => kLc J g tt te vs σ H1 Q) : tLc wi g tt te vs σ H Q := k
def kRg (x : V) (H : Hp) (R : Int → Int → Hp → Prop) : Prop := ∃ n, x = .int n ∧ R 0 n H
theorem r_lstRg1 (k : te σ H fun x H1 => kRg x H1 fun c d H2 => RgOk c d ∧ ∀ q, H2 q = none → Q (.ref q) (upd H2 q (.lst (rgV c d)))) : tLstRg (tRg1 te) σ H Q := k
theorem r_krg {R : Int → Int → Hp → Prop} (k : R 0 a H) : kRg (.int a) H R := ⟨a, rfl, k⟩
theorem absF {J : It} {S : Hp → Prop} (h : S H) (k : ∀ HT, S HT → kFor J g tb D σ HT) : kFor J g tb D σ H := k H h
theorem r_yes {R : Bool → Hp → Prop} (k : R true H) : tYes σ H R := k
theorem r_seqT {n : Nat} {ts : TGs} {R : St → Hp → Prop} (h : H l = some (.tup xs)) (e : xs.length = n) (k : ts xs σ H R) : gSeq K n ts (.ref l) σ H R := .inl ⟨l, xs, rfl, SqT.of h, e, k⟩
theorem r_seqL {n : Nat} {ts : TGs} {R : St → Hp → Prop} (h : H l = some (.lst xs)) (e : xs.length = n) (k : ts xs σ H R) : gSeq K n ts (.ref l) σ H R := .inr ⟨l, xs, rfl, SqL.of h, e, k⟩
theorem r_gcons {ts : TGs} {R : St → Hp → Prop} (k : g v σ H fun σ' H' => ts xs σ' H' R) : gCons g ts (v :: xs) σ H R := ⟨v, xs, rfl, k⟩
theorem r_gnil {R : St → Hp → Prop} (k : R σ H) : gNil [] σ H R := ⟨rfl, k⟩
end
end Hm

/-! F4: a caught error held as a value behind its suite; isinstance of it. -/
namespace Hm
open PySem PySem.Spec PyProof.Rows L2
/-- an error of the class cls at a -/
def ExV (cls : Value) (a : Addr) : HO := .ext fun h => ∃ (oe : Obj) (vs : Array Value), h.get? a = some oe ∧ Zc cls none oe ∧ oe.data = .fields vs
theorem exV_ok {P : Program} {w : World} {H : Hp} {h : Heap} {a : Addr} {cls : Value} {oe : Obj} {vs : Array Value} (e : h.get? a = some oe) (z : Zc cls none oe) (d : oe.data = .fields vs) : ObjOk P w H h a (ExV cls a) :=
  ⟨⟨oe, vs, e, z, d⟩, ⟨oe, e⟩, fun _ _ ⟨o, v, q, r⟩ k => ⟨o, v, k o q, r⟩⟩
section
variable {X : Cx} {pins : List (Addr × Obj)} {σ : L2.St} {H : Hp} {s : Shared}
/-- an object of ours, not told of yet, is told of -/
theorem show_ {a : Addr} {φ : Heap → Prop} (I : Inv X pins σ H s) (ha : H a = none) (h0 : X.s_0.heap.get? a = none) (hL : X.env.locals ≠ a) (hc : ∀ x c, X.env.cells.lookup x = some c → c ≠ a) (hp : ∀ p ∈ X.pn ++ pins, p.1 ≠ a)
    (new : ObjOk X.prog X.w (upd H a (.ext φ)) s.heap a (.ext φ)) : Inv X pins σ (upd H a (.ext φ)) s := by
  have old : ∀ b o, H b = some o → upd H a (.ext φ) b = some o := fun b o e => by rw [upd_ne (ne_of_none e ha)]; exact e
  refine ⟨I.ok, I.os, I.bare, ⟨I.base.keep, I.base.slot, fun b o e n hx => ?_, I.base.there, fun b xs e => old _ _ (I.base.tups b xs e), fun b o u e => old _ _ (I.base.frzs b o u e), fun b ps e => ?_⟩, I.loc, I.cell, ?_, fun x c e => ?_, fun p hpp => ?_, fun b u e => ?_, I.len⟩
  · rw [upd_ne (fun z => by rw [z, h0] at e; cases e)]
    exact I.base.free b o e n hx
  · obtain ⟨more, q⟩ := I.base.tbls b ps e
    exact ⟨more, old _ _ q⟩
  · rw [upd_ne hL]; exact I.free
  · rw [upd_ne (hc x c e)]; exact I.freeC x c e
  · obtain ⟨q1, q2, q3⟩ := I.pin p hpp
    exact ⟨q1, by rw [upd_ne (hp p hpp)]; exact q2, q3⟩
  · by_cases hb : b = a
    · subst hb
      rw [upd_same] at e
      cases e
      exact new
    · rw [upd_ne hb] at e
      exact (I.hok b u e).stay (fun _ _ _ q => q) (fun c q => old _ _ q) fun c xs q => old _ _ q
end
/-- what a clause «except c as n» wishes, the error kept: slot i is n's -/
def wVal (K : PySem.W.Frag) (c : Value) (i : Nat) (ts : Addr → Value → TS) (Wout : WX) (D : Ends) : WX := fun cls d σ H =>
  d = none ∧ ∃ b, PySem.W.exmOne K cls c = some b ∧
    (b = true → ∀ a, H a = none → ts a cls { nx := fun σ' H' => D.nx (σ'.set i none) (upd H' a (ExV cls a)), rt := D.rt, bk := fun _ _ => False, ct := fun _ _ => False } (σ.set i (some (.ref a))) H) ∧ (b = false → Wout cls d σ H)
section
variable {X : Cx} {x n : Str} {c : Value} {i : Nat} {body suite : List Stmt} {b₀ : Stmt} {np pos pos' : Pos} {tb : WX → TS} {ts : Addr → Value → TS} {Wout : WX}
/-- try: body, except x as n: suite; what is caught stays an object that is known -/
theorem ps_try_val (hs : X.stack = X.env :: X.outer) (hf : X.env.frame = some X.env.locals) (hN : X.N.Nodup) (hi : X.N[i]? = some n) (hln : X.env.kindOf n = some .local) (hc : Names X x c) (tk : Takes X Wout) (hex : X.ex = [])
    (hb : ∀ (W : WX) (pn : List (Addr × Obj)) (xe : Value → Shared → Prop), Takes (X.tr pn xe) W → PassesOwn (model X.prog X.w) X.A X.env xe → PSs (X.tr pn xe) body (tb W))
    (hsu : ∀ (a : Addr) (oe : Obj) (cls : Value) (pn : List (Addr × Obj)), PSs (X.suite a ((a, oe) :: pn)) (b₀ :: suite) (ts a cls)) :
    PS X (.Try body [.ExceptHandler (some (.Name x np)) (some n) (b₀ :: suite) pos'] [] [] pos) (fun D σ H => tb (wVal X.K c i ts Wout D) D σ H) := by
  refine ⟨fun pins s σ H D I h => wpAny_Try_except ?_⟩
  have ok := I.ok
  have hfr : X.A.frames = some (X.env :: X.outer) := by rw [ok.frames, hs]
  have run := (hb (wVal X.K c i ts Wout D) (X.pn ++ pins) (fun e s₁ => wpAny (model X.prog X.w) X.A (noteFrame e X.env) (fun _ s₂ => wpAny (model X.prog X.w) X.A (setFlight e none)
    (fun _ s₃ => wpAny (model X.prog X.w) X.A (handleBy e X.env [.ExceptHandler (some (.Name x np)) (some n) (b₀ :: suite) pos']) (SP X pins D) X.xe s₃) X.xe s₂) X.xe s₁) ?_ PassesOwn.looking).run [] s σ H D (I.toTry _) h
  · refine wpAny_mono run (fun f s1 hsp => ?_) fun _ _ z => z
    cases f with
    | next => obtain ⟨σ', H', J', q⟩ := hsp; exact wpAny_execs_nil ⟨σ', H', J'.ofTry ok, q⟩
    | brk => obtain ⟨σ', H', J', q⟩ := hsp; exact ⟨σ', H', J'.ofTry ok, q⟩
    | cont => obtain ⟨σ', H', J', q⟩ := hsp; exact ⟨σ', H', J'.ofTry ok, q⟩
    | ret u => obtain ⟨v, σ', H', J', r, q⟩ := hsp; exact ⟨v, σ', H', J'.ofTry ok, r, q⟩
  rintro u s' ⟨a, B, sI, pins', σ', H', cls, d, rfl, J', nb, up, sky, na, os, ag, rfl, b, hb1, hyes, hno⟩
  have J : Inv X pins σ' H' sI := J'.ofTry ok
  have air : Sky B (X.env :: X.outer) a (Zc cls none) X.env.locals s'.heap := by rw [← hs]; exact sky
  show wpAny (model X.prog X.w) X.A (noteFrame (.ref a) X.env) _ _ _
  refine Sky.land Zc.steady hfr hf air fun h3 fl3 up3 => ?_
  have J3 : Inv X pins σ' H' { s' with heap := h3 } := J.landed nb fl3.1 (up.trans up3) os ag
  obtain ⟨oe3, vs3, he3, hz3, hd3⟩ := fl3.there
  have aside : a ∉ frs (X.env :: X.outer) := fun hm => by
    obtain ⟨_, o', e', hnf⟩ := fl3.2.2.1.mem hm
    rw [he3] at e'; cases e'
    exact hnf _ hd3
  have gI : sI.heap.get? a = none := by
    cases e : sI.heap.get? a with
    | none => rfl
    | some o =>
      have q := nb a o e (by show a ∉ frs X.stack; rw [hs]; exact aside)
      rw [fl3.2.1] at q; cases q
  have nL : a ≠ X.env.locals := fun z => aside (List.mem_filterMap.mpr ⟨X.env, List.mem_cons_self, by rw [hf, z]⟩)
  have nF : a ∉ X.fs := fun hm => by
    obtain ⟨e, he, q⟩ := List.mem_filterMap.mp hm
    exact aside (List.mem_filterMap.mpr ⟨e, List.mem_cons_of_mem _ he, q⟩)
  have h00 : X.s_0.heap.get? a = none := by
    cases e : X.s_0.heap.get? a with
    | none => rfl
    | some o =>
      obtain ⟨o', q⟩ := J.base.there a o e (by rw [hex]; exact List.not_mem_nil)
      rw [gI] at q; cases q
  have noCell : ∀ y k, X.env.cells.lookup y = some k → k ≠ a := fun y k e z => by
    obtain ⟨v, o, q, _⟩ := J.cell y k e
    rw [z, gI] at q; cases q
  have noPin : ∀ p ∈ X.pn ++ pins, p.1 ≠ a := fun p hp z => by
    have q := (J.pin p hp).1
    rw [z, gI] at q; cases q
  have S3 := J3.suite he3 hd3 na nL nF
  refine wpAny_handleBy_cons (codeAny_handlers_test ?_) (by intro q; cases q)
  have LT : PySem.W.Looks (model X.prog X.w) h3 (typeOf (.ref a)) cls := fun A Q E s k q => wpAny_typeOf_ref (k _ _ he3) (by rw [hz3.1]; exact q)
  have LM := PySem.W.exm_one (M := model X.prog X.w) (J3.kIn) LT hb1
  have test : ∀ {Q : Value → Shared → Prop} {E : Value → Shared → Prop}, Q c { s' with heap := h3 } → wpAny (model X.prog X.w) (X.A.mark (some (.ref a))) (eval (.Name x np) X.env) Q E { s' with heap := h3 } := fun {Q E} q => by
    obtain ⟨hg, hdbg, hm | ⟨hm, hv, hnn⟩⟩ := hc
    · exact ld_glob (X := X.suite a ((a, oe3) :: (X.pn ++ pins))) S3 hg hm q hdbg
    · exact ld_blt (X := X.suite a ((a, oe3) :: (X.pn ++ pins))) S3 hg hm hv q hnn hdbg
  refine test (LM.here ?_)
  cases b with
  | false =>
    show wpAny _ X.A (handleBy (.ref a) X.env []) _ _ _
    refine wpAny_handleBy_nil ?_
    obtain ⟨k1, k2, k3, oe, vs, T, oT, ts', he, hz, hd, h1, hr⟩ := id fl3
    unfold PySem.passOn
    refine wpAny_bind (wpAny_field he hd h1 ?_)
    rw [if_neg (show ¬ ((Value.ref T == Value.none) = true) from by simp)]
    have fin : wpAny (model X.prog X.w) X.A (setFlight (.ref a) X.env.frame) (fun _ s4 => wpAny (model X.prog X.w) X.A (throw (.ref a) : Sem Flow) (SP X pins D) X.xe s4) X.xe { s' with heap := h3 } := by
      rw [hf]
      refine HandSPX.setFlight_upZ fl3 fun h4 hh4 up4 => wpAny_throw (tk _ _ ?_)
      exact ⟨a, B, sI, pins, σ', H', cls, none, rfl, J, nb, (up.trans up3).trans up4, .inr (.inr (by rw [hs]; exact hh4)), na, os, ag, hno rfl⟩
    first
      | exact wpAny_bind (wpAny_pure (wpAny_bind fin))
      | exact wpAny_bind fin
  | true =>
    refine codeAny_handlers_suite_as (HandSPX.lands_againZ fl3 fun h4 fl4 up4 => ?_)
    have J4 : Inv X pins σ' H' { s' with heap := h4 } := J.landed nb fl4.1 ((up.trans up3).trans up4) os ag
    obtain ⟨oe4, vs4, he4, hz4, hd4⟩ := fl4.there
    have S4 := J4.suite he4 hd4 na nL nF
    refine store_ok (X := X.suite a ((a, oe4) :: (X.pn ++ pins))) (v := .ref a) S4 hN hi (.inl hln) rfl (fun s5 S5 => ?_) (.inr hln)
    refine wpAny_mono ((hsu a oe4 cls (X.pn ++ pins)).run [] s5 _ H' _ S5 (hyes rfl a na)) (fun f s6 hsp => ?_) (fun _ _ z => False.elim z)
    cases f with
    | next =>
      obtain ⟨σ6, H6, S6, q6⟩ := hsp
      obtain ⟨e6, n6, _⟩ := S6.pin (a, oe4) (List.mem_append_left _ List.mem_cons_self)
      have J6 : Inv X pins σ6 H6 s6 := S6.unsuite ok
      have J7 := show_ (φ := fun h => ∃ (oe : Obj) (vs : Array Value), h.get? a = some oe ∧ Zc cls none oe ∧ oe.data = .fields vs) J6 n6 h00 nL.symm noCell noPin (exV_ok e6 hz4 hd4)
      exact gone_ok J7 hN hi hln fun s7 J8 => ⟨_, _, J8, q6⟩
    | brk => obtain ⟨σ6, H6, S6, q6⟩ := hsp; exact q6.elim
    | cont => obtain ⟨σ6, H6, S6, q6⟩ := hsp; exact q6.elim
    | ret u =>
      obtain ⟨v6, σ6, H6, S6, r6, q6⟩ := hsp
      exact gone_ok (S6.unsuite ok) hN hi hln fun s7 J7 => ⟨_, _, _, J7, r6, q6⟩
end
/-- isinstance(e, C), e an error that is known -/
def uIsV (K : PySem.W.Frag) : List V → Hp → VK → Prop := fun xs H Q => ∃ (a D : Addr) (c : V) (u : Value) (b : Bool), xs = [.ref a, c] ∧ H a = some (ExV (.ref D) a) ∧ ExcC K D ∧ ClsV c u ∧ PySem.W.kitOne K (.ref D) u = some b ∧ Q (.bl b) H
theorem k_isV {X : Cx} : CallR X (.builtin "isinstance") (uIsV X.K) := by
  intro pins s σ H xs us Q I r h
  obtain ⟨a, D, c, u, b, rfl, ha, C, hc, e, q⟩ := h
  obtain ⟨u1, u2, rfl, r1, r2⟩ := vals2 r
  have e2 := hc.eq r2
  subst e2
  cases r1
  obtain ⟨⟨oe, vs, hg, hz, hv⟩, _⟩ := I.hok a _ ha
  have J : PySem.W.InstAt s.heap a oe D none := by
    obtain ⟨oc, od, oda, osl⟩ := oe
    obtain ⟨h1, h2⟩ := hz
    dsimp only at h1 h2 hv
    subst h1 h2 hv
    exact ⟨hg, rfl, rfl, trivial⟩
  exact PySem.W.kia_one (PySem.W.handS_kitx_exc C.hg C.hk C.hs C.hd C.ha C.hn C.ht C.hm) I.kIn J e (fun z => nomatch z) fun tk => ⟨.bl b, H, I.tok tk, rfl, q⟩
/-! ### defs that raise, called within a try -/
section
variable {X : Cx} {k j : Nat} {C : Addr} {x m : Str} {sp : Sp} {p pos apos : Pos} {e o : Expr} {es : List Expr} {ta : TE} {t : TA} {W : WX}
def tMethS (C : Addr) (m : Str) (sp : Sp) (W : WX) (ta : TE) (t : TA) : TE := fun σ H Q => tMeth C m sp [] (fun cls d H => W cls d σ H) ta t σ H Q
theorem r_methS {σ : L2.St} {H : Hp} {Q : VK} (h : tMeth C m sp [] (fun cls d H => W cls d σ H) ta t σ H Q) : tMethS C m sp W ta t σ H Q := h
def tCallW (sp : Sp) (W : WX) (t : TA) : TE := fun σ H Q => tCall sp [] (fun cls d H => W cls d σ H) t σ H Q
theorem r_callW {σ : L2.St} {H : Hp} {Q : VK} (h : tCall sp [] (fun cls d H => W cls d σ H) t σ H Q) : tCallW sp W t σ H Q := h
theorem e_callS (c : Cal X.prog X.w X.K X.mg X.base (L2.CX X.prog X.w) k x sp) (hr : Room j X.A) (hk : k ≤ j) (tk : Takes X W) (hg : Gl X x) (ha : PA X (e :: es) t)
    (hdb : (x == ("__debug__" : Str)) = false := by decide) (he : starEach (e :: es) X.env = (false, eval e X.env) :: starEach es X.env := by rfl) (hpl : (backTo pos (starEach es X.env)).any (·.1) = false := by rfl) :
    PE X (.Call (.Name x p) (e :: es) [] pos) (tCallW sp W t) := by
  obtain ⟨f, fd, ps, F, hm, kp, b⟩ := c.ex
  refine ⟨fun pins s σ H Q I h => ?_⟩
  refine (pe_callS (E := WE W) F (hr.mono hk) hg hm kp b (fun σ => passAt tk σ) ha hdb he hpl).run pins s σ H Q I ?_
  have h' : t σ H fun vs H1 => sp (vs ++ []) H1 Q (fun cls d H => W cls d σ H) := h
  show t σ H fun vs H1 => sp vs H1 Q (fun cls d H => W cls d σ H)
  simpa only [List.append_nil] using h'
theorem e_methS {pl : Sem Bool} (c : Met X.prog X.w X.K X.mg X.base (L2.CX X.prog X.w) k C m sp) (hr : Room j X.A) (hk : k ≤ j) (tk : Takes X W) (he : PE X o ta) (ha : PA X (e :: es) t)
    (h1 : starEach (e :: es) X.env = (false, eval e X.env) :: starEach es X.env := by rfl) (h2 : (backTo pos (starEach es X.env)).any (·.1) = false := by rfl)
    (h3 : eval (.Call (.Attribute o m apos) (e :: es) [] pos) X.env = (do let ov ← eval o X.env; standAt apos.atName; let (f, first) ← holding [ov] (getMethod ov m pl)
                                                                          callWith pos f first (backTo pos (starEach (e :: es) X.env)) (backToKw pos (keywordEach [] X.env))) := by rfl) :
    PE X (.Call (.Attribute o m apos) (e :: es) [] pos) (tMethS C m sp W ta t) := by
  obtain ⟨f, fd, ps, hc, hm, F, b⟩ := c.ex
  refine ⟨fun pins s σ H Q I h => PySem.W.methodCall_KW (pl := pl) (thn (he.run pins s σ H _ I h) fun u s1 ⟨y, H1, I1, rx, a, dx, fs, ey, ea, l, q⟩ => ?_) h3⟩
  subst ey
  obtain rfl : u = Value.ref a := rx
  refine getmeth_ok I1 ea hc hm l (PySem.W.callWith_K (first := [.ref a]) (h₀ := X.base) I.ok.mod.kin hm.kp (thn (ha.run pos pins s1 σ H1 _ I1 q) fun us s2 ⟨vs, H2, I2, r, q2⟩ => ⟨I2.kIn, ?_⟩) h1 h2)
  refine run_fnS (E := WE W) (us := .ref a :: us) (vs := .ref a :: vs) F (hr.mono hk) b (fun _ _ _ e s' I c => tk e s' (XE.of_call I (fun _ _ _ h => h) c)) I2 (.cons rfl r) ?_
  have q' : sp (.ref a :: vs ++ []) H2 Q (fun cls d H => W cls d σ H) := q2
  simpa only [List.append_nil] using q'
end
/-! ### raise -/
def tRaiseC (C : Addr) (W : WX) : TS := fun _ σ H => W (.ref C) none σ H
def tRaiseE (C : Addr) (W : WX) (te : TE) : TS := fun _ σ H => te σ H fun _ H1 => W (.ref C) none σ H1
theorem r_raiseC {C : Addr} {W : WX} {D : Ends} {σ : L2.St} {H : Hp} (h : W (.ref C) none σ H) : tRaiseC C W D σ H := h
theorem r_raiseE {C : Addr} {W : WX} {te : TE} {D : Ends} {σ : L2.St} {H : Hp} (h : te σ H fun _ H1 => W (.ref C) none σ H1) : tRaiseE C W te D σ H := h
/-- what stands of a refusal's class -/
structure XCl (K : PySem.W.Frag) (mg : Str → Option Value) (x : Str) (C : Addr) : Prop where
  g : mg x = some (.ref C)
  x : PySem.W.excIn K C [.type "ValueError", .type "Exception", .type "BaseException", .type "object"] "ValueError.__new__" = true
  k : PySem.W.keepIn K (.ref C) = true
  b : PySem.W.subIn K (.ref C) (.type "BaseException") = some true
  t : PySem.W.typeIn K (.ref C) = some (.type "type")
section
variable {X : Cx} {C : Addr} {x m : Str} {p p2 pos pos' : Pos} {jj : Nat} {e : Expr} {ta : TE} {W : WX}
theorem ps_raiseC (hc : X.calm = true) (tk : Takes X W) (c : XCl X.K X.mg x C) (hg : Gl X x) (hdb : (x == ("__debug__" : Str)) = false := by decide) : PS X (.Raise (some (.Call (.Name x p) [.Constant (.str m) jj p2] [] pos)) none pos') (tRaiseC C W) :=
  ps_raise hc tk (pmk_own PySem.F.excBase_ValueError c.x c.g c.k (raises_own c.b c.t) hg hdb)
theorem ps_raiseE (hc : X.calm = true) (tk : Takes X W) (c : XCl X.K X.mg x C) (hg : Gl X x) (he : PE X e ta) (hs : starEach [e] X.env = (false, eval e X.env) :: starEach [] X.env := by rfl) (hdb : (x == ("__debug__" : Str)) = false := by decide) :
    PS X (.Raise (some (.Call (.Name x p) [e] [] pos)) none pos') (tRaiseE C W ta) :=
  ps_raise hc tk (SkE.pmk_own1 PySem.F.excBase_ValueError c.x c.g c.k (raises_own c.b c.t) hg he hs hdb)
end
/-! ### try -/
def tTryV (K : PySem.W.Frag) (c : Value) (i : Nat) (ts : TS) (tb : WX → TS) : TS := fun D σ H => tb (wVal K c i (fun _ _ => ts) (fun _ _ _ _ => False) D) D σ H
theorem r_tryV {K : PySem.W.Frag} {c : Value} {i : Nat} {ts : TS} {tb : WX → TS} {D : Ends} {σ : L2.St} {H : Hp} (h : tb (wVal K c i (fun _ _ => ts) (fun _ _ _ _ => False) D) D σ H) : tTryV K c i ts tb D σ H := h
theorem w_val {K : PySem.W.Frag} {c cls : Value} {i : Nat} {ts : TS} {D : Ends} {σ : L2.St} {H : Hp} (hm : PySem.W.exmOne K cls c = some true)
    (h : ∀ a, H a = none → ts { nx := fun σ' H' => D.nx (σ'.set i none) (upd H' a (ExV cls a)), rt := D.rt, bk := fun _ _ => False, ct := fun _ _ => False } (σ.set i (some (.ref a))) H) : wVal K c i (fun _ _ => ts) (fun _ _ _ _ => False) D cls none σ H :=
  ⟨rfl, true, hm, fun _ a ha => h a ha, fun z => nomatch z⟩
section
variable {X : Cx} {x n : Str} {c : Value} {i : Nat} {body suite : List Stmt} {b₀ : Stmt} {np pos pos' : Pos} {tb : WX → TS} {ts : TS}
theorem ps_tryV (hs : X.stack = X.env :: X.outer) (hf : X.env.frame = some X.env.locals) (hN : X.N.Nodup) (hi : X.N[i]? = some n) (hln : X.env.kindOf n = some .local) (hc : Names X x c) (hex : X.ex = [])
    (hb : ∀ (W : WX) (pn : List (Addr × Obj)) (xe : Value → Shared → Prop), Takes (X.tr pn xe) W → PassesOwn (model X.prog X.w) X.A X.env xe → PSs (X.tr pn xe) body (tb W))
    (hsu : ∀ (a : Addr) (oe : Obj) (pn : List (Addr × Obj)), PSs (X.suite a ((a, oe) :: pn)) (b₀ :: suite) ts) :
    PS X (.Try body [.ExceptHandler (some (.Name x np)) (some n) (b₀ :: suite) pos'] [] [] pos) (tTryV X.K c i ts tb) :=
  ps_try_val (tb := tb) (ts := fun _ _ => ts) hs hf hN hi hln hc takes0 hex (fun W pn xe tk po => hb W pn xe tk po) fun a oe _ pn => hsu a oe pn
end
theorem v_isiN {K : PySem.W.Frag} {H : Hp} {Q : VK} {n : String} {b : Bool} (e : kitB "NoneType" n = some b) (k : Q (.bl b) H) : rIsi K [.non, .ty n] H Q := v_isi (.ty n) (.base .non) (kit_ty e) k
theorem v_isV {K : PySem.W.Frag} {a D : Addr} {c : V} {u : Value} {b : Bool} {H : Hp} {Q : VK} (h : H a = some (ExV (.ref D) a)) (d : ExcC K D) (hc : ClsV c u) (e : PySem.W.kitOne K (.ref D) u = some b) (q : Q (.bl b) H) : uIsV K [.ref a, c] H Q := ⟨a, D, c, u, b, rfl, h, d, hc, e, q⟩
/-! ### list(d.values()), xs.remove(k) -/
/-- a view of the values of the dict at a -/
def ValO (a p : Addr) : HO := .ext fun h => h.IsValuesView p a
def rDVals : V → List V → Hp → VK → Prop := fun x xs H Q => ∃ (a : Addr) (kvs : List (L2.Key × V)), x = .ref a ∧ xs = [] ∧ H a = some (.dK kvs) ∧ ∀ p, H p = none → Q (.ref p) (upd H p (ValO a p))
def rListV : List V → Hp → VK → Prop := fun xs H Q => ∃ (a p : Addr) (kvs : List (L2.Key × V)), xs = [.ref p] ∧ H p = some (ValO a p) ∧ H a = some (.dK kvs) ∧ ∀ q, H q = none → Q (.ref q) (upd H q (.lst (kvs.map (·.2))))
section
variable {X : Cx}
theorem mt_dvals : MtR X "dict.values" rDVals := by
  intro pins s σ H x xs v us Q I rx r h
  obtain ⟨a, kvs, rfl, rfl, ha, q⟩ := h
  obtain rfl : v = Value.ref a := rx
  cases r
  obtain ⟨_, hsys, vs, rel, dof⟩ := dk_of I.hok ha
  obtain ⟨ep, dat⟩ := dof.dictAt
  obtain ⟨ob, es, ho, ex, hdat, hko, hpr, hnd⟩ := id dat
  refine call_meetsIn F.slot_dict_values ⟨ob, ho, ex.1⟩ F.entry_dict_values (F.args_dict_values_1 _) (meets_dict_values (mixKind X.prog X.w) a hsys) ⟨⟨vs, dof⟩, ?_⟩
  exact ⟨.ref s.heap.objs.size, upd H s.heap.objs.size (ValO a s.heap.objs.size), I.laid (t' := s.toks) (fun b u e => Heap.get?_push_of_some _ e) (Nat.le_refl _) ⟨⟨_, Heap.get?_push_size _ rfl, rfl, rfl⟩, ⟨_, Heap.get?_push_size _ rfl⟩, fun _ _ ⟨o, e, z⟩ k => ⟨o, k o e, z⟩⟩, rfl, q _ (I.hok.fresh (Nat.le_refl _))⟩
theorem k_listV (hc : X.calm = true) : CallR X (.type "list") rListV := by
  intro pins s σ H xs us Q I r h
  obtain ⟨a, p, kvs, rfl, hp, ha, q⟩ := h
  obtain ⟨u, rfl, rx⟩ := vals1 r
  obtain rfl : u = Value.ref p := rx
  obtain ⟨view, _⟩ := I.hok p _ hp
  obtain ⟨z, hsys, vs, rel, dof⟩ := dk_of I.hok ha
  obtain ⟨ep, dat⟩ := dof.dictAt
  have hl : kvs.length = vs.length := KV.length rel
  refine PySem.W.kdl_call (PySem.W.kdl_values (knd := mixKind X.prog X.w) (kvs := vs) (ep := ep)) (I.ok.hd hc) ⟨view, dat⟩ (by rw [← hl]; exact z) fun h' tk acc' c' hkeep hS hacc => ?_
  refine ⟨.ref s.heap.objs.size, upd H s.heap.objs.size (.lst (kvs.map (·.2))), I.laid (t' := tk) hkeep (Nat.le_refl _) (show ObjOk X.prog X.w _ _ _ (.lst (kvs.map (·.2))) from ⟨by rw [List.length_map]; exact z, acc'.toList, c', ?_, by rw [Array.toArray_toList]; exact hS⟩), rfl, q _ (I.hok.fresh (Nat.le_refl _))⟩
  have el : acc'.toList.length = acc'.size := by simp
  refine vals_of_at (by rw [List.length_map, el, hacc.1, hl]) fun j x w h1 h2 => ?_
  obtain ⟨k, hk⟩ := hacc.2 j w (by rw [← Array.getElem?_toList]; exact h2)
  obtain ⟨x', e1, e2⟩ := KV.at' rel hk
  rw [List.getElem?_map, e1] at h1
  cases h1
  exact e2
end
theorem v_dvals {a : Addr} {kvs : List (L2.Key × V)} {H : Hp} {Q : VK} (h : H a = some (.dK kvs)) (k : ∀ p, H p = none → Q (.ref p) (upd H p (ValO a p))) : rDVals (.ref a) [] H Q := ⟨a, kvs, rfl, rfl, h, k⟩
theorem r_dvals {K : PySem.W.Frag} {a : Addr} {kvs : List (L2.Key × V)} {H : Hp} {Q : VK} {σ : L2.St} (h : H a = some (.dK kvs)) (k : ∀ p, H p = none → Q (.ref p) (upd H p (ValO a p))) : kBM K "dict" rDVals tNil σ (.ref a) H Q := ⟨.inr (.inr (.inl ⟨rfl, .inl ⟨kvs, h⟩⟩)), v_dvals h k⟩
theorem v_listV {a p : Addr} {kvs : List (L2.Key × V)} {H : Hp} {Q : VK} (h : H p = some (ValO a p)) (h2 : H a = some (.dK kvs)) (k : ∀ q, H q = none → Q (.ref q) (upd H q (.lst (kvs.map (·.2))))) : rListV [.ref p] H Q := ⟨a, p, kvs, rfl, h, h2, k⟩
theorem r_remX {K : PySem.W.Frag} {W : WX} {to te : TE} {σ : L2.St} {H : Hp} {Q : VK} (h : to σ H fun x H1 => tyV K "list" x H1 ∧ te σ H1 fun y H2 => ∃ (l : Addr) (ns : List Int) (k : Int), x = .ref l ∧ y = .int k ∧ H2 l = some (.lst (ns.map V.int)) ∧
  (k ∈ ns → Q .non (upd H2 l (.lst ((ns.erase k).map V.int)))) ∧ (k ∉ ns → ∀ d, W (.type "ValueError") d σ H2)) : tRemX K W to te σ H Q := h
end Hm

/-! F5: values. Rp W H v d: v is the data d, all its objects outside of W. -/
namespace Hm
open PySem PySem.Spec PyProof.Rows L2
mutual
inductive Rp (W : Addr → Prop) (H : Hp) : V → PyData → Prop
  | non : Rp W H .non .none
  | bl (b : Bool) : Rp W H (.bl b) (.bool b)
  | int (i : Int) : Rp W H (.int i) (.int i)
  | str (x : Str) : Rp W H (.str x) (.str x)
  | lst {a : Addr} {xs : List V} {ds : List PyData} : H a = some (.lst xs) → ¬ W a → RpA W H xs ds → Rp W H (.ref a) (.list ds)
  | tup {a : Addr} {xs : List V} {ds : List PyData} : H a = some (.tup xs) → ¬ W a → RpA W H xs ds → Rp W H (.ref a) (.tuple ds)
inductive RpA (W : Addr → Prop) (H : Hp) : List V → List PyData → Prop
  | nil : RpA W H [] []
  | cons {v : V} {vs : List V} {d : PyData} {ds : List PyData} : Rp W H v d → RpA W H vs ds → RpA W H (v :: vs) (d :: ds)
end
section
variable {W W' : Addr → Prop} {H H' : Hp} {K : PySem.W.Frag}
mutual
theorem Rp.move (f : ∀ a o, ¬ W a → H a = some o → H' a = some o ∧ ¬ W' a) : ∀ (d : PyData) (v : V), Rp W H v d → Rp W' H' v d
  | .none, _, h => by cases h; exact .non
  | .bool b, _, h => by cases h; exact .bl b
  | .int i, _, h => by cases h; exact .int i
  | .str x, _, h => by cases h; exact .str x
  | .list ds, _, h => by
    cases h with
    | lst e n r => exact .lst (f _ _ n e).1 (f _ _ n e).2 (RpA.move f ds _ r)
  | .tuple ds, _, h => by
    cases h with
    | tup e n r => exact .tup (f _ _ n e).1 (f _ _ n e).2 (RpA.move f ds _ r)
  | .dict _, _, h => by cases h
theorem RpA.move (f : ∀ a o, ¬ W a → H a = some o → H' a = some o ∧ ¬ W' a) : ∀ (ds : List PyData) (vs : List V), RpA W H vs ds → RpA W' H' vs ds
  | [], _, h => by cases h; exact .nil
  | d :: ds, _, h => by
    cases h with
    | cons r s => exact .cons (Rp.move f d _ r) (RpA.move f ds _ s)
end
mutual
theorem Rp.dp : ∀ (d : PyData) (v : V), Rp W H v d → Dp K H v d
  | .none, _, h => by cases h; exact .non
  | .bool b, _, h => by cases h; exact .bl b
  | .int i, _, h => by cases h; exact .int i
  | .str x, _, h => by cases h; exact .str x
  | .list ds, _, h => by
    cases h with
    | lst e n r => exact .lst (SqL.of e) (RpA.dp ds _ r)
  | .tuple ds, _, h => by
    cases h with
    | tup e n r => exact .tup (SqT.of e) (RpA.dp ds _ r)
  | .dict _, _, h => by cases h
theorem RpA.dp : ∀ (ds : List PyData) (vs : List V), RpA W H vs ds → DpAll K H vs ds
  | [], _, h => by cases h; exact .nil
  | d :: ds, _, h => by
    cases h with
    | cons r s => exact .cons (Rp.dp d _ r) (RpA.dp ds _ s)
end
theorem Rp.keep {v : V} {d : PyData} (h : Rp W H v d) (k : Keep W H H') : Rp W H' v d := Rp.move (fun a o n e => ⟨k a o n e, n⟩) d v h
theorem RpA.keep {v : List V} {d : List PyData} (h : RpA W H v d) (k : Keep W H H') : RpA W H' v d := RpA.move (fun a o n e => ⟨k a o n e, n⟩) d v h
theorem Rp.same {v : V} {d : PyData} (h : Rp W H v d) (k : Keep Nil H H') : Rp W H' v d := h.keep k.weak
theorem RpA.same {v : List V} {d : List PyData} (h : RpA W H v d) (k : Keep Nil H H') : RpA W H' v d := h.keep k.weak
theorem Rp.sub {v : V} {d : PyData} (h : Rp W H v d) (s : ∀ x, W' x → W x) : Rp W' H v d := Rp.move (fun a o n e => ⟨e, fun z => n (s _ z)⟩) d v h
theorem RpA.sub {v : List V} {d : List PyData} (h : RpA W H v d) (s : ∀ x, W' x → W x) : RpA W' H v d := RpA.move (fun a o n e => ⟨e, fun z => n (s _ z)⟩) d v h
/-- a new cell may be marked as one that changes -/
theorem Rp.own {v : V} {d : PyData} {p : Addr} (h : Rp W H v d) (hp : H p = none) : Rp (fun x => W x ∨ x = p) H v d :=
  Rp.move (fun a o n e => ⟨e, fun z => z.elim n (ne_of_none e hp)⟩) d v h
theorem RpA.own {v : List V} {d : List PyData} {p : Addr} (h : RpA W H v d) (hp : H p = none) : RpA (fun x => W x ∨ x = p) H v d :=
  RpA.move (fun a o n e => ⟨e, fun z => z.elim n (ne_of_none e hp)⟩) d v h
/-- W' is W and cells that are new at H -/
theorem Rp.grow {v : V} {d : PyData} (h : Rp W H v d) (s : ∀ x, W' x → W x ∨ H x = none) : Rp W' H v d :=
  Rp.move (fun a o n e => ⟨e, fun z => (s _ z).elim n fun w => by rw [e] at w; cases w⟩) d v h
theorem RpA.grow {v : List V} {d : List PyData} (h : RpA W H v d) (s : ∀ x, W' x → W x ∨ H x = none) : RpA W' H v d :=
  RpA.move (fun a o n e => ⟨e, fun z => (s _ z).elim n fun w => by rw [e] at w; cases w⟩) d v h
theorem Rp.list_ {v : V} {ds : List PyData} (h : Rp W H v (.list ds)) : ∃ a xs, v = .ref a ∧ H a = some (.lst xs) ∧ ¬ W a ∧ RpA W H xs ds := by
  cases h with
  | lst e n r => exact ⟨_, _, rfl, e, n, r⟩
theorem Rp.tuple_ {v : V} {ds : List PyData} (h : Rp W H v (.tuple ds)) : ∃ a xs, v = .ref a ∧ H a = some (.tup xs) ∧ ¬ W a ∧ RpA W H xs ds := by
  cases h with
  | tup e n r => exact ⟨_, _, rfl, e, n, r⟩
theorem Rp.int_ {v : V} {i : Int} (h : Rp W H v (.int i)) : v = .int i := by cases h; rfl
theorem Rp.str_ {v : V} {i : Str} (h : Rp W H v (.str i)) : v = .str i := by cases h; rfl
theorem Rp.bool_ {v : V} {i : Bool} (h : Rp W H v (.bool i)) : v = .bl i := by cases h; rfl
theorem Rp.none_ {v : V} (h : Rp W H v .none) : v = .non := by cases h; rfl
theorem RpA.nil_ {vs : List V} (h : RpA W H vs []) : vs = [] := by cases h; rfl
theorem RpA.cons_ {vs : List V} {d : PyData} {ds : List PyData} (h : RpA W H vs (d :: ds)) : ∃ v r, vs = v :: r ∧ Rp W H v d ∧ RpA W H r ds := by
  cases h with
  | cons r s => exact ⟨_, _, rfl, r, s⟩
theorem Rp.two {v : V} {d e : PyData} (h : Rp W H v (.tuple [d, e])) : ∃ a x y, v = .ref a ∧ H a = some (.tup [x, y]) ∧ ¬ W a ∧ Rp W H x d ∧ Rp W H y e := by
  obtain ⟨a, xs, rfl, e, n, r⟩ := h.tuple_
  obtain ⟨x, _, rfl, r1, r⟩ := r.cons_
  obtain ⟨y, _, rfl, r2, r⟩ := r.cons_
  cases r.nil_
  exact ⟨a, x, y, rfl, e, n, r1, r2⟩
theorem Rp.mk2 {a : Addr} {x y : V} {d e : PyData} (h : H a = some (.tup [x, y])) (n : ¬ W a) (r1 : Rp W H x d) (r2 : Rp W H y e) : Rp W H (.ref a) (.tuple [d, e]) := .tup h n (.cons r1 (.cons r2 .nil))
theorem RpA.len : ∀ {ds : List PyData} {vs : List V}, RpA W H vs ds → vs.length = ds.length
  | [], _, h => by rw [h.nil_]; rfl
  | d :: ds, _, h => by
    obtain ⟨v, r, rfl, _, h⟩ := h.cons_
    rw [List.length_cons, List.length_cons, h.len]
theorem RpA.at_ : ∀ {ds : List PyData} {vs : List V} {i : Nat} {d : PyData}, RpA W H vs ds → ds[i]? = some d → ∃ v, vs[i]? = some v ∧ Rp W H v d
  | [], _, _, _, _, e => by simp at e
  | d :: ds, _, i, x, h, e => by
    obtain ⟨v, r, rfl, h1, h⟩ := h.cons_
    cases i with
    | zero => simp at e; subst e; exact ⟨v, rfl, h1⟩
    | succ i =>
      obtain ⟨w, e1, e2⟩ := h.at_ (i := i) (by simpa using e)
      exact ⟨w, by simpa using e1, e2⟩
theorem RpA.at' {ds : List PyData} {vs : List V} {i : Nat} {v : V} (h : RpA W H vs ds) (e : vs[i]? = some v) : ∃ d, ds[i]? = some d ∧ Rp W H v d := by
  have hi : i < ds.length := by rw [← h.len]; exact (List.getElem?_eq_some_iff.mp e).1
  obtain ⟨w, e1, e2⟩ := h.at_ (List.getElem?_eq_getElem hi)
  rw [e] at e1; cases e1
  exact ⟨_, List.getElem?_eq_getElem hi, e2⟩
theorem RpA.app : ∀ {ds es : List PyData} {vs us : List V}, RpA W H vs ds → RpA W H us es → RpA W H (vs ++ us) (ds ++ es)
  | [], _, _, _, h, k => by rw [h.nil_]; exact k
  | d :: ds, _, _, _, h, k => by
    obtain ⟨v, r, rfl, h1, h⟩ := h.cons_
    exact .cons h1 (h.app k)
theorem RpA.snoc {ds : List PyData} {vs : List V} {v : V} {d : PyData} (h : RpA W H vs ds) (k : Rp W H v d) : RpA W H (vs ++ [v]) (ds ++ [d]) := h.app (.cons k .nil)
theorem RpA.take : ∀ (n : Nat) {ds : List PyData} {vs : List V}, RpA W H vs ds → RpA W H (vs.take n) (ds.take n)
  | 0, _, _, _ => by simp; exact .nil
  | n + 1, [], _, h => by rw [h.nil_]; simp; exact .nil
  | n + 1, d :: ds, _, h => by
    obtain ⟨v, r, rfl, h1, h⟩ := h.cons_
    exact .cons h1 (h.take n)
theorem RpA.drop : ∀ (n : Nat) {ds : List PyData} {vs : List V}, RpA W H vs ds → RpA W H (vs.drop n) (ds.drop n)
  | 0, _, _, h => h
  | n + 1, [], _, h => by rw [h.nil_]; simp; exact .nil
  | n + 1, d :: ds, _, h => by
    obtain ⟨v, r, rfl, h1, h⟩ := h.cons_
    exact h.drop n
theorem RpA.rev : ∀ {ds : List PyData} {vs : List V}, RpA W H vs ds → RpA W H vs.reverse ds.reverse
  | [], _, h => by rw [h.nil_]; exact .nil
  | d :: ds, _, h => by
    obtain ⟨v, r, rfl, h1, h⟩ := h.cons_
    rw [List.reverse_cons, List.reverse_cons]
    exact h.rev.snoc h1
theorem RpA.ints_ : ∀ {l : List Int} {vs : List V}, RpA W H vs (l.map .int) → vs = l.map V.int
  | [], _, h => h.nil_
  | x :: l, _, h => by
    obtain ⟨v, r, rfl, h1, h⟩ := h.cons_
    rw [h1.int_, h.ints_]; rfl
theorem RpA.ints : ∀ (l : List Int), RpA W H (l.map V.int) (l.map .int)
  | [] => .nil
  | x :: l => .cons (.int x) (RpA.ints l)
theorem RpA.strs_ : ∀ {l : List Str} {vs : List V}, RpA W H vs (l.map .str) → vs = l.map V.str
  | [], _, h => h.nil_
  | x :: l, _, h => by
    obtain ⟨v, r, rfl, h1, h⟩ := h.cons_
    rw [h1.str_, h.strs_]; rfl
theorem RpA.strs : ∀ (l : List Str), RpA W H (l.map V.str) (l.map .str)
  | [] => .nil
  | x :: l => .cons (.str x) (RpA.strs l)
end
/-- data of ints -/
abbrev dI (l : List Int) : PyData := .list (l.map PyData.int)
theorem Rp.ints_ {W : Addr → Prop} {H : Hp} {v : V} {l : List Int} (h : Rp W H v (dI l)) : ∃ a, v = .ref a ∧ H a = some (.lst (l.map V.int)) ∧ ¬ W a := by
  obtain ⟨a, xs, rfl, e, n, r⟩ := h.list_
  rw [r.ints_] at e
  exact ⟨a, rfl, e, n⟩
theorem Rp.ints {W : Addr → Prop} {H : Hp} {a : Addr} {l : List Int} (h : H a = some (.lst (l.map V.int))) (n : ¬ W a) : Rp W H (.ref a) (dI l) := .lst h n (RpA.ints l)
/-! ### data that Python tells apart as we do -/
mutual
def pl : PyData → Bool
  | .none => true
  | .int _ => true
  | .str x => (PyData.str x).canLay0
  | .bool _ => false
  | .dict _ => false
  | .list ds => plA ds
  | .tuple ds => plA ds
def plA : List PyData → Bool
  | [] => true
  | d :: ds => pl d && plA ds
end
mutual
theorem eqv_iff : ∀ (d e : PyData), pl d = true → pl e = true → (PyData.eqv d e = true ↔ d = e)
  | .none, e, _, _ => by cases e <;> simp [PyData.eqv]
  | .int i, e, _, h => by cases e <;> simp [PyData.eqv] <;> simp [pl] at h
  | .str i, e, _, _ => by cases e <;> simp [PyData.eqv]
  | .bool _, _, h, _ => by simp [pl] at h
  | .dict _, _, h, _ => by simp [pl] at h
  | .list ds, e, h, k => by
    cases e <;> simp [PyData.eqv]
    exact eqvA_iff ds _ (by simpa [pl] using h) (by simpa [pl] using k)
  | .tuple ds, e, h, k => by
    cases e <;> simp [PyData.eqv]
    exact eqvA_iff ds _ (by simpa [pl] using h) (by simpa [pl] using k)
theorem eqvA_iff : ∀ (ds es : List PyData), plA ds = true → plA es = true → (PyData.eqvAll ds es = true ↔ ds = es)
  | [], es, _, _ => by cases es <;> simp [PyData.eqvAll]
  | d :: ds, es, h, k => by
    cases es with
    | nil => simp [PyData.eqvAll]
    | cons e es =>
      rw [plA, Bool.and_eq_true] at h k
      simp only [PyData.eqvAll, Bool.and_eq_true, List.cons.injEq]
      rw [eqv_iff d e h.1 k.1, eqvA_iff ds es h.2 k.2]
end
theorem plA_mem : ∀ {ds : List PyData}, plA ds = true ↔ ∀ d ∈ ds, pl d = true
  | [] => by simp [plA]
  | d :: ds => by simp [plA, plA_mem (ds := ds)]
theorem plA_map {α : Type} {f : α → PyData} {l : List α} (h : ∀ x, pl (f x) = true) : plA (l.map f) = true := plA_mem.mpr fun d hd => by
  obtain ⟨x, _, rfl⟩ := List.mem_map.mp hd
  exact h x
open Classical in
theorem eqv_dec {d e : PyData} (h : pl d = true) (k : pl e = true) : PyData.eqv d e = decide (d = e) := by
  by_cases z : d = e
  · rw [decide_eq_true z]; exact (eqv_iff d e h k).mpr z
  · rw [decide_eq_false z]
    cases q : PyData.eqv d e with
    | false => rfl
    | true => exact absurd ((eqv_iff d e h k).mp q) z
theorem eqv_inj {α : Type} [DecidableEq α] {f : α → PyData} (hp : ∀ x, pl (f x) = true) (inj : ∀ x y, f x = f y → x = y) (a b : α) : PyData.eqv (f a) (f b) = decide (a = b) := by
  by_cases z : a = b
  · subst z; rw [decide_eq_true rfl]; exact (eqv_iff _ _ (hp _) (hp _)).mpr rfl
  · rw [decide_eq_false z]
    cases q : PyData.eqv (f a) (f b) with
    | false => rfl
    | true => exact absurd (inj _ _ ((eqv_iff _ _ (hp _) (hp _)).mp q)) z
mutual
theorem lay_pl : ∀ d : PyData, pl d = true → d.canLay0 = true
  | .none, _ => rfl
  | .int _, _ => rfl
  | .str _, h => by simpa [pl] using h
  | .bool _, h => by simp [pl] at h
  | .dict _, h => by simp [pl] at h
  | .list ds, h => by simp only [PyData.canLay0]; exact layA_pl ds (by simpa [pl] using h)
  | .tuple ds, h => by simp only [PyData.canLay0]; exact layA_pl ds (by simpa [pl] using h)
theorem layA_pl : ∀ ds : List PyData, plA ds = true → PyData.canLayAll0 ds = true
  | [], _ => by simp [PyData.canLayAll0]
  | d :: ds, h => by
    rw [plA, Bool.and_eq_true] at h
    simp [PyData.canLayAll0, lay_pl d h.1, layA_pl ds h.2]
end
theorem sh_pl {d : PyData} (h : pl d = true) (k : d.depth ≤ 64) : SeqAt.shaped d = true := by
  show (d.canLay0 && decide (d.depth ≤ 64)) = true
  rw [Bool.and_eq_true]
  exact ⟨lay_pl d h, decide_eq_true k⟩
theorem depthA_le {n : Nat} : ∀ {ds : List PyData}, (∀ d ∈ ds, d.depth ≤ n) → PyData.depthAll ds ≤ n
  | [], _ => by simp [PyData.depthAll]
  | d :: ds, h => by
    have h1 := h d List.mem_cons_self
    have h2 := depthA_le fun x hx => h x (List.mem_cons_of_mem _ hx)
    simp only [PyData.depthAll]; omega
theorem depth_list {n : Nat} {ds : List PyData} (h : ∀ d ∈ ds, d.depth ≤ n) : (PyData.list ds).depth ≤ n + 1 := by
  have := depthA_le h
  simp only [PyData.depth]; omega
theorem depth_tup {n : Nat} {ds : List PyData} (h : ∀ d ∈ ds, d.depth ≤ n) : (PyData.tuple ds).depth ≤ n + 1 := by
  have := depthA_le h
  simp only [PyData.depth]; omega
theorem depth_ints (l : List Int) : (PyData.list (l.map PyData.int)).depth ≤ 64 := by
  have := depth_list (n := 1) (ds := l.map PyData.int) fun d hd => by
    obtain ⟨x, _, rfl⟩ := List.mem_map.mp hd
    simp [PyData.depth]
  omega
theorem pl_ints (l : List Int) : pl (.list (l.map PyData.int)) = true := by
  show plA _ = true
  exact plA_map fun x => rfl
theorem sh_ints (l : List Int) : SeqAt.shaped (.list (l.map PyData.int)) = true := sh_pl (pl_ints l) (depth_ints l)
/-! ### what is new is none of what changes -/
def Al (W : Addr → Prop) (H : Hp) : Prop := ∀ x, H x = none → ¬ W x
theorem Al.same {W : Addr → Prop} {H H' : Hp} (a : Al W H) (k : Keep Nil H H') : Al W H' := fun x hx => a x (keep_none k hx)
theorem Al.nil {H : Hp} : Al Nil H := fun _ _ z => z
theorem Al.or {W V : Addr → Prop} {H : Hp} (a : Al W H) (b : Al V H) : Al (fun x => W x ∨ V x) H := fun x hx z => z.elim (a x hx) (b x hx)
theorem Al.one {W : Addr → Prop} {H : Hp} {p : Addr} {o : HO} (a : Al W H) (h : H p = some o) : Al (fun x => W x ∨ x = p) H := fun x hx z => z.elim (a x hx) fun e => by rw [e, h] at hx; cases hx
section
variable {W : Addr → Prop} {H : Hp} {K : PySem.W.Frag} {P : Program} {w : World} {Q : VK} {x y : V} {d e : PyData}
theorem v_addV {ds es : List PyData} (al : Al W H) (h1 : Rp W H x (.list ds)) (h2 : Rp W H y (.list es)) (few : ds.length + es.length ≤ 100000) (k : ∀ (p : Addr) (H' : Hp), Keep Nil H H' → Rp W H' (.ref p) (.list (ds ++ es)) → Q (.ref p) H') : bAdd K x y H Q := by
  obtain ⟨a, xs, rfl, e1, n1, r1⟩ := h1.list_
  obtain ⟨b, ys, rfl, e2, n2, r2⟩ := h2.list_
  refine v_addL e1 e2 (few2 (by rw [r1.len, r2.len]; exact few)) fun p hp => k p _ (Keep.alloc hp) ?_
  have kk : Keep Nil H (upd H p (.lst (xs ++ ys))) := Keep.alloc hp
  exact .lst upd_same (al p hp) ((r1.same kk).app (r2.same kk))
theorem v_eqV (h1 : Rp W H x d) (h2 : Rp W H y e) (s1 : SeqAt.shaped d = true) (s2 : SeqAt.shaped e = true) (k : Q (.bl (PyData.eqv d e)) H) : cEq K x y H Q := .inr ⟨d, e, Rp.dp _ _ h1, Rp.dp _ _ h2, s1, s2, k⟩
theorem v_neV (h1 : Rp W H x d) (h2 : Rp W H y e) (s1 : SeqAt.shaped d = true) (s2 : SeqAt.shaped e = true) (k : Q (.bl (!PyData.eqv d e)) H) : cNe K x y H Q := .inr ⟨d, e, Rp.dp _ _ h1, Rp.dp _ _ h2, s1, s2, k⟩
theorem v_inV {ds : List PyData} (h1 : Rp W H x d) (h2 : Rp W H y (.list ds)) (s1 : SeqAt.shaped d = true) (s2 : SeqAt.shaped (.list ds) = true) (k : Q (.bl (ds.any fun z => PyData.eqv z d)) H) : cIn P w K x y H Q := .inr (.inl ⟨d, ds, Rp.dp _ _ h1, Rp.dp _ _ h2, s1, s2, k⟩)
theorem v_ninV {ds : List PyData} (h1 : Rp W H x d) (h2 : Rp W H y (.list ds)) (s1 : SeqAt.shaped d = true) (s2 : SeqAt.shaped (.list ds) = true) (k : Q (.bl (!ds.any fun z => PyData.eqv z d)) H) : cNotIn P w K x y H Q := .inr (.inl ⟨d, ds, Rp.dp _ _ h1, Rp.dp _ _ h2, s1, s2, k⟩)
end
/-! ### len(set(..)) -/
def kLenS (w : World) : List V → Hp → VK → Prop := fun xs H Q => ∃ (a : Addr) (S : Int → Bool) (n : Nat), xs = [.ref a] ∧ H a = some (SetO w a S n) ∧ ∀ es : List Int, es.Nodup → (∀ z : Int, S z = true ↔ z ∈ es) → es.length = n → Q (.int n) H
theorem k_lenS {X : Cx} : CallR X (.builtin "len") (kLenS X.w) := by
  intro pins s σ H xs us Q I r h
  obtain ⟨a, S, n, rfl, ha, q⟩ := h
  obtain ⟨o, es, ep, t, ho, hex, hd, good, nd, mem, few, fits, num, _⟩ := setO_get I ha
  rw [Vals.ref1 r]
  have hs : scanBound = 4096 := rfl
  refine call_len_set ho hex hd fits (by omega) ?_
  rw [num]
  exact ⟨.int n, H, (I.tok _).tok _, ⟨_, rfl⟩, q (es.toList.map keyOf) nd mem (by rw [List.length_map, Array.length_toList]; exact num)⟩
theorem v_lenS {w : World} {a : Addr} {ns : List Int} {n : Nat} {H : Hp} {Q : VK} (h : H a = some (SetO w a (fun j => decide (j ∈ ns)) n)) (k : ∀ es : List Int, es.Nodup → (∀ z : Int, z ∈ es ↔ z ∈ ns) → Q (.int es.length) H) : kLenS w [.ref a] H Q :=
  ⟨a, _, n, rfl, h, fun es nd m l => l ▸ k es nd fun z => by rw [← m z, decide_eq_true_iff]⟩
/-! ### walks -/
/-- the walk J yields the data ds, outside of W, whatever of N changes -/
structure Yv (N W : Addr → Prop) (J : It) (H0 : Hp) (ds : List PyData) : Prop where
  go : ∀ (H : Hp) (i : Nat), Keep N H0 H → i < ds.length → J.go i H
  stop : ∀ (H : Hp), Keep N H0 H → J.stop ds.length H
  yld : ∀ (H H' : Hp) (i : Nat) (x : V) (d : PyData), Keep N H0 H → ds[i]? = some d → J.yld i H x H' → Keep Nil H H' ∧ Rp W H' x d
theorem yv_list {N W : Addr → Prop} {K : PySem.W.Frag} {H : Hp} {a : Addr} {xs : List V} {ds : List PyData} (h : H a = some (.lst xs)) (n : ¬ N a) (r : RpA W H xs ds) (s : ∀ x, N x → W x) : Yv N W (Itl K a) H ds := by
  refine ⟨fun H1 i k hi => ⟨xs, xs[i]'(by rw [r.len]; exact hi), SqL.of (k _ _ n h), List.getElem?_eq_getElem _⟩, fun H1 k => ⟨xs, SqL.of (k _ _ n h), by rw [r.len]; exact Nat.le_refl _⟩, fun H1 H2 i x d k e y => ?_⟩
  obtain ⟨rfl, y⟩ := y
  obtain ⟨v, e1, e2⟩ := r.at_ e
  have := y xs (SqL.of (k _ _ n h))
  rw [e1] at this; cases this
  exact ⟨Keep.refl, e2.keep (k.mono s)⟩
theorem yv_ints {N W : Addr → Prop} {K : PySem.W.Frag} {H : Hp} {a : Addr} {l : List Int} (h : H a = some (.lst (l.map V.int))) (n : ¬ N a) : Yv N W (Itl K a) H (l.map PyData.int) := by
  have y := yv_list (N := N) (W := N) (K := K) h n (RpA.ints l) (fun _ z => z)
  refine ⟨y.go, y.stop, fun H1 H2 i x d k e q => ?_⟩
  obtain ⟨k2, r⟩ := y.yld H1 H2 i x d k e q
  rw [List.getElem?_map] at e
  obtain ⟨z, _, rfl⟩ := Option.map_eq_some_iff.mp e
  rw [r.int_]
  exact ⟨k2, .int _⟩
theorem yv_tup {N W : Addr → Prop} {K : PySem.W.Frag} {H : Hp} {a : Addr} {xs : List V} {ds : List PyData} (h : H a = some (.tup xs)) (n : ¬ N a) (r : RpA W H xs ds) (s : ∀ x, N x → W x) : Yv N W (Itt K a) H ds := by
  refine ⟨fun H1 i k hi => ⟨xs, xs[i]'(by rw [r.len]; exact hi), SqT.of (k _ _ n h), List.getElem?_eq_getElem _⟩, fun H1 k => ⟨xs, SqT.of (k _ _ n h), by rw [r.len]; exact Nat.le_refl _⟩, fun H1 H2 i x d k e y => ?_⟩
  obtain ⟨rfl, y⟩ := y
  obtain ⟨v, e1, e2⟩ := r.at_ e
  have := y xs (SqT.of (k _ _ n h))
  rw [e1] at this; cases this
  exact ⟨Keep.refl, e2.keep (k.mono s)⟩
def rng (lo : Int) (n : Nat) : List PyData := (List.range n).map fun i => PyData.int (lo + (i : Nat))
theorem rng_len (lo : Int) (n : Nat) : (rng lo n).length = n := by unfold rng; rw [List.length_map, List.length_range]
theorem rng_get {lo : Int} {n i : Nat} {d : PyData} (h : (rng lo n)[i]? = some d) : i < n ∧ d = .int (lo + (i : Nat)) := by
  have hi : i < n := by have := (List.getElem?_eq_some_iff.mp h).1; rw [rng_len] at this; exact this
  unfold rng at h
  rw [List.getElem?_map, List.getElem?_range hi] at h
  exact ⟨hi, by simpa using h.symm⟩
theorem yv_rng {N W : Addr → Prop} {H : Hp} {lo : Int} {n : Nat} : Yv N W (Itr lo n) H (rng lo n) := by
  refine ⟨fun H1 i k hi => by rw [rng_len] at hi; exact hi, fun H1 k => by rw [rng_len]; exact Nat.le_refl _, fun H1 H2 i x d k e y => ?_⟩
  obtain ⟨rfl, rfl⟩ := y
  obtain ⟨_, rfl⟩ := rng_get e
  exact ⟨Keep.refl, .int _⟩
def signs (x : Str) : List PyData := x.cps.toList.map fun c => PyData.str ⟨#[c]⟩
theorem yv_str {N W : Addr → Prop} {H : Hp} {x : Str} : Yv N W (Its x) H (signs x) := by
  have len : (signs x).length = x.cps.size := by unfold signs; rw [List.length_map, Array.length_toList]
  refine ⟨fun H1 i k hi => by rw [len] at hi; exact hi, fun H1 k => by rw [len]; exact Nat.le_refl _, fun H1 H2 i v d k e y => ?_⟩
  obtain ⟨rfl, c, hc, rfl⟩ := y
  unfold signs at e
  rw [List.getElem?_map, Array.getElem?_toList, hc] at e
  cases e
  exact ⟨Keep.refl, .str _⟩
section
variable {J : It} {g : TG} {tt : TT} {te : TE} {vs : List Nat} {σ : L2.St} {H : Hp} {Q : VK}
/-- a comprehension that reads and makes new things alone -/
theorem lcT {α : Type} (W : Addr → Prop) (enc : α → PyData) (l : List α) (p : α → Bool) (f : α → PyData) (al : Al W H) (few : l.length < sizeLine) (Y : ∀ D, H D = none → Yv Nil (fun x => W x ∨ x = D) J H (l.map enc))
    (body : ∀ (D : Addr) (i : Nat) (x : V) (d : α) (H1 : Hp) (R : VK) (N : Hp → Prop), H D = none → l[i]? = some d → Keep Nil H H1 → Al (fun x => W x ∨ x = D) H1 → Rp (fun x => W x ∨ x = D) H1 x (enc d) →
      (∀ y H4, Keep Nil H1 H4 → Rp (fun x => W x ∨ x = D) H4 y (f d) → p d = true → R y H4) → (∀ H3, Keep Nil H1 H3 → p d = false → N H3) →
      g x (wipe σ vs) H1 fun σ2 H2 => wipe σ2 vs = wipe σ vs ∧ tt σ2 H2 fun b H3 => if b = true then te σ2 H3 R else N H3)
    (cont : ∀ (D : Addr) (H' : Hp), H D = none → Keep Nil H H' → Rp W H' (.ref D) (.list ((l.filter p).map f)) → Q (.ref D) H') : kLc J g tt te vs σ H Q := by
  intro D hD
  refine ⟨fun i m H' => m = l.length - i ∧ i ≤ l.length ∧ ∃ us, H' D = some (.lst us) ∧ RpA (fun x => W x ∨ x = D) H' us (((l.take i).filter p).map f) ∧ Keep Nil H H', ⟨_, rfl, Nat.zero_le _, [], upd_same, by simp; exact .nil, Keep.alloc hD⟩, ?_⟩
  rintro i m H1 ⟨rfl, hi, us, eD, ru, k1⟩
  have nD : ¬ W D := al D hD
  by_cases lt : i < l.length
  · refine .inr ⟨(Y D hD).go H1 i k1 (by rw [List.length_map]; exact lt), fun H' => ∃ us, H' D = some (.lst us) ∧ RpA (fun x => W x ∨ x = D) H' us (((l.take (i + 1)).filter p).map f) ∧ Keep Nil H H', fun H' h => ⟨l.length - (i + 1), by omega, rfl, lt, h⟩, fun x H2 hy => ?_⟩
    have hd := List.getElem?_eq_getElem lt
    obtain ⟨k2, rx⟩ := (Y D hD).yld H1 H2 i x (enc l[i]) k1 (by rw [List.getElem?_map, hd]; rfl) hy
    have k12 := k1.trans k2
    have eD2 := k2.get (fun z => z) eD
    have tk : l.take (i + 1) = l.take i ++ [l[i]] := by rw [List.take_succ, hd]; rfl
    refine body D i x _ H2 _ _ hD hd k12 ((al.same k12).one eD2) rx (fun y H5 k5 r5 hp => ?_) fun H4 k4 hp => ?_
    · have eD5 := k5.get (fun z => z) eD2
      have ru5 := ru.same (k2.trans k5)
      have kD : Keep (fun x => W x ∨ x = D) H5 (upd H5 D (.lst (us ++ [y]))) := Keep.refl.set (.inr rfl)
      refine ⟨us, eD5, ?_, us ++ [y], upd_same, ?_, (k12.trans k5).setN hD⟩
      · have h1 := ru.len
        have h2 := List.length_filter_le p (l.take i)
        rw [List.length_map] at h1
        rw [List.length_take] at h2
        omega
      · rw [tk, List.filter_append, List.map_append]
        have : [l[i]].filter p = [l[i]] := by simp [hp]
        rw [this]
        exact (ru5.keep kD).snoc (r5.keep kD)
    · refine ⟨us, k4.get (fun z => z) eD2, ?_, k12.trans k4⟩
      rw [tk, List.filter_append, List.map_append]
      have : [l[i]].filter p = [] := by simp [hp]
      rw [this, List.map_nil, List.append_nil]
      exact ru.same (k2.trans k4)
  · have e : i = l.length := by omega
    subst e
    rw [List.take_of_length_le (Nat.le_refl _)] at ru
    have st := (Y D hD).stop H1 k1
    rw [List.length_map] at st
    exact .inl ⟨st, cont D H1 hD k1 (.lst eD nD (ru.sub fun x h => .inl h))⟩
theorem filter_tt {α : Type} (l : List α) : (l.filter fun _ => true) = l := by simp
/-- a comprehension that changes W, by what is told of S; without a test -/
theorem lcS (W : Addr → Prop) (ds : List PyData) (S : Nat → List PyData → Hp → Prop) (few : ds.length < sizeLine) (al : Al W H) (Y : ∀ D, H D = none → Yv W (fun x => W x ∨ x = D) J H ds)
    (als : ∀ i out H1, S i out H1 → Al W H1)
    (S0 : S 0 [] H) (stab : ∀ D i out H1 H2, H D = none → Keep (fun x => x = D) H1 H2 → (∀ o, H1 D = some o → ∃ l, o = .lst l) → S i out H1 → S i out H2)
    (body : ∀ (D : Addr) (i : Nat) (x : V) (d : PyData) (out : List PyData) (H1 : Hp) (R : VK) (N : Hp → Prop), H D = none → ds[i]? = some d → out.length = i → Keep W H H1 → Al (fun x => W x ∨ x = D) H1 → Rp (fun x => W x ∨ x = D) H1 x d → S i out H1 →
      (∀ y H4 e, Keep W H1 H4 → Rp (fun x => W x ∨ x = D) H4 y e → S (i + 1) (out ++ [e]) H4 → R y H4) →
      g x (wipe σ vs) H1 fun σ2 H2 => wipe σ2 vs = wipe σ vs ∧ tYes σ2 H2 fun b H3 => if b = true then te σ2 H3 R else N H3)
    (cont : ∀ (D : Addr) (H' : Hp) (out : List PyData), H D = none → out.length = ds.length → Keep W H H' → S ds.length out H' → Rp W H' (.ref D) (.list out) → Q (.ref D) H') : kLc J g tYes te vs σ H Q := by
  intro D hD
  have nD : ¬ W D := al D hD
  refine ⟨fun i m H' => m = ds.length - i ∧ i ≤ ds.length ∧ ∃ us out, H' D = some (.lst us) ∧ out.length = i ∧ RpA (fun x => W x ∨ x = D) H' us out ∧ Keep W H H' ∧ S i out H',
    ⟨_, rfl, Nat.zero_le _, [], [], upd_same, rfl, .nil, Keep.alloc hD, stab D 0 [] H _ hD (Keep.refl.set rfl) (fun o e => by rw [hD] at e; cases e) S0⟩, ?_⟩
  rintro i m H1 ⟨rfl, hi, us, out, eD, lo, ru, k1, s1⟩
  by_cases lt : i < ds.length
  · refine .inr ⟨(Y D hD).go H1 i k1 lt, fun H' => ∃ us out, H' D = some (.lst us) ∧ out.length = i + 1 ∧ RpA (fun x => W x ∨ x = D) H' us out ∧ Keep W H H' ∧ S (i + 1) out H', fun H' h => ⟨ds.length - (i + 1), by omega, rfl, lt, h⟩, fun x H2 hy => ?_⟩
    have hd := List.getElem?_eq_getElem lt
    obtain ⟨k2, rx⟩ := (Y D hD).yld H1 H2 i x _ k1 hd hy
    have k12 := k1.trans k2.weak
    have eD2 := k2.get (fun z => z) eD
    have s2 := stab D i out H1 H2 hD k2.weak (fun o e => by rw [eD] at e; exact ⟨_, (Option.some.inj e).symm⟩) s1
    refine body D i x _ out H2 _ _ hD hd lo k12 ((als _ _ _ s2).one eD2) rx s2 fun y H5 e k5 r5 s5 => ?_
    have eD5 := k5 _ _ nD eD2
    have ru2 := ru.same k2
    have kD : Keep (fun x => x = D) H5 (upd H5 D (.lst (us ++ [y]))) := Keep.refl.set rfl
    have kW : Keep (fun x => W x ∨ x = D) H5 (upd H5 D (.lst (us ++ [y]))) := kD.mono fun _ h => .inr h
    refine ⟨us, eD5, ?_, us ++ [y], out ++ [e], upd_same, by rw [List.length_append, lo]; rfl, ?_, (k12.trans k5).setN hD, stab D _ _ _ _ hD kD (fun o q => by rw [eD5] at q; exact ⟨_, (Option.some.inj q).symm⟩) s5⟩
    · have h1 := ru.len
      omega
    · exact ((ru2.keep (k5.mono fun _ h => .inl h)).keep kW).snoc (r5.keep kW)
  · have e : i = ds.length := by omega
    subst e
    exact .inl ⟨(Y D hD).stop H1 k1, cont D H1 out hD lo k1 s1 (.lst eD nD (ru.sub fun x h => .inl h))⟩
end
end Hm

/-! F6: dicts keyed by pairs of ints: sorted(d). -/
namespace Hm
open PySem PySem.Spec PyProof.Rows L2
abbrev TX := List L2.Key × V
def pk (p : Int × Int) : List L2.Key := [Sum.inl p.1, Sum.inl p.2]
theorem pk_inj {p q : Int × Int} (h : pk p = pk q) : p = q := by
  unfold pk at h
  injection h with h1 h2
  injection h2 with h2 _
  injection h1 with h1
  injection h2 with h2
  exact Prod.ext h1 h2
/-- a list of pairs, sorted as Python sorts tuples -/
def RisP (l : List (Int × Int)) : Prop := l.Pairwise fun p q => SrtO.lexB q p = false
theorem risP_eq {l m : List (Int × Int)} (p : l.Perm m) (h1 : RisP l) (h2 : RisP m) : l = m :=
  List.Perm.eq_of_pairwise (fun a b _ _ h h' => by
    have h := SrtO.lexB_no.mp h
    have h' := SrtO.lexB_no.mp h'
    exact Prod.ext (by omega) (by omega)) h1 h2 p
def kH (H : Hp) (v : Value) : Int × Int := match v with
  | .ref a => match H a with
    | some (.tup [.int i, .int j]) => (i, j)
    | _ => (0, 0)
  | _ => (0, 0)
def adr (v : Value) : Addr := match v with
  | .ref a => a
  | _ => default
def PrT (H : Hp) (t : Addr) (p : Int × Int) : Prop := H t = some (.tup [.int p.1, .int p.2])
def uSortDictP : List V → Hp → VK → Prop := fun xs H Q => ∃ (a : Addr) (kvs : List TX) (ks : List (Int × Int)), xs = [.ref a] ∧ H a = some (.dT kvs) ∧ kvs.map (·.1) = ks.map pk ∧
  ∀ (bs : List Addr) (ys : List (Int × Int)) (p : Addr), ys.Perm ks → RisP ys → Paired (PrT H) bs ys → H p = none → Q (.ref p) (upd H p (.lst (bs.map V.ref)))
section
variable {X : Cx}
theorem cu_sortDictP (hcalm : X.calm = true) : CallR X (.builtin "sorted") uSortDictP := by
  intro pins s σ H xs us Q I r q
  obtain ⟨a, kvs, ks, rfl, hd, hks, q⟩ := q
  rw [Vals.ref1 r]
  obtain ⟨z, hs, kr, pr, o, es, ep, ho, hx, hdt, he, hn⟩ := (show ObjOk X.prog X.w H s.heap a (.dT kvs) from (Rd.of hd).ok I.hok)
  have l1 : es.size = kr.length := size_of_entries he
  have l2 : kvs.length = kr.length := Paired.length pr
  have hkr : kr.map (fun x => kH H (.ref x.2.1)) = ks ∧ ∀ x ∈ kr, H x.2.1 = some (.tup [.int (kH H (.ref x.2.1)).1, .int (kH H (.ref x.2.1)).2]) := by
    clear q hn he l1 l2 hd z
    induction pr generalizing ks with
    | nil =>
      cases ks with
      | nil => exact ⟨rfl, fun _ h => nomatch h⟩
      | cons _ _ => simp at hks
    | @cons p q ps qs h t ih =>
      cases ks with
      | nil => simp at hks
      | cons k ks =>
        rw [List.map_cons, List.map_cons] at hks
        injection hks with e1 e2
        obtain ⟨i1, i2⟩ := ih ks e2
        have hq : H q.2.1 = some (.tup [.int k.1, .int k.2]) := by rw [h.2.1, e1]; rfl
        have ek : kH H (.ref q.2.1) = k := by unfold kH; simp only [hq]
        refine ⟨by rw [List.map_cons, i1, ek], fun x hx => ?_⟩
        rcases List.mem_cons.mp hx with rfl | hx
        · rw [ek]; exact hq
        · exact i2 x hx
  obtain ⟨hk1, hk2⟩ := hkr
  refine Calls.call_function_entry kind_sorted plain_sorted entry_sorted (args_sorted1 _) ?_
  unfold Builtin.«sorted»
  refine wpAny_bind (m := checkCount "sorted" 1 1 _) (wpAny_pure ?_)
  refine wpAny_bind (PySem.W.kdu_collect (A := X.A.in1) (kdl_raw hs hx hdt) (I.ok.hd hcalm) ho (by omega) fun h' tk acc hk hacc => ?_)
  have ea : acc.toList = kr.map fun x => Value.ref x.2.1 := by
    have hl : acc.toList.length = kr.length := by rw [Array.length_toList, hacc.1]; exact l1
    apply List.ext_getElem?
    intro j
    rw [List.getElem?_map]
    cases hj : acc.toList[j]? with
    | none =>
      have h1 := List.getElem?_eq_none_iff.mp hj
      rw [List.getElem?_eq_none (by omega)]
      all_goals rfl
    | some v =>
      obtain ⟨en, hen, hv⟩ := hacc.2 j v (by rw [← Array.getElem?_toList]; exact hj)
      have qe := entry_at he j
      rw [hen] at qe
      cases hb : kr[j]? with
      | none =>
        rw [hb] at qe
        exact nomatch (show some en = none from qe)
      | some b =>
        rw [hb] at qe
        have e2 : en = entryOfKey (tupleKind (mixKind X.prog X.w)) b := Option.some.inj qe
        rw [hv, e2]
        all_goals rfl
  have I1 : Inv X pins σ H { s with heap := h', toks := tk } := I.kept hk
  have hal2 : acc.toList.length ≤ sizeLine := by rw [ea, List.length_map]; omega
  refine wpAny_bind (wpAny_newList ?_ hal2)
  have at1 : (h'.push (seqObj "list" acc.toList.toArray 0)).get? h'.objs.size = some (seqObj "list" acc.toList.toArray 0) := Heap.get?_push_size _ rfl
  show wpAny _ _ _ _ _ { s with heap := h'.push (seqObj "list" acc.toList.toArray 0), toks := tk }
  have isp : ∀ v ∈ acc.toList, Srt.IsPair (h'.push (seqObj "list" acc.toList.toArray 0)) v (kH H v).1 (kH H v).2 := fun v hv => by
    rw [ea] at hv
    obtain ⟨x, hx, rfl⟩ := List.mem_map.mp hv
    obtain ⟨_, its2, r2, o, ho, hc, n, hd⟩ := I1.hok _ _ (hk2 x hx)
    obtain ⟨u1, u2, rfl, ri, rj⟩ := vals2 r2
    obtain ⟨t1, rfl⟩ := ri
    obtain ⟨t2, rfl⟩ := rj
    exact ⟨x.2.1, o, t1, t2, n, rfl, Heap.get?_push_of_some _ ho, hc, hd⟩
  refine wpAny_bind (wpAny_holding (wpAny_call_entry slot_list_sort ⟨_, at1, rfl⟩ entry_list_sort
    (SrtO.list_sort_ord (SrtO.swo_lex (kH H)) (s := { s with heap := h'.push (seqObj "list" acc.toList.toArray 0), toks := tk }) at1 hal2 (fun h2 => SrtO.pairs_sortableO (by omega) isp fun o e => ?_) fun out z1 z2 => ⟨_, rfl, ?_⟩) (args_list_sort _)))
  · have e' : some o = some (seqObj "list" acc.toList.toArray 0) := e.symm.trans at1
    cases e'
    intro c
    exact absurd (Value.type.inj c) (by decide)
  obtain ⟨c, hc⟩ := sortedHeap_at (vs := acc.toList) (out := out.toArray) at1
  have outr : ∀ v ∈ out, ∃ x ∈ kr, v = Value.ref x.2.1 := fun v hv => by
    have := z2.perm.mem_iff.mp hv
    rw [ea] at this
    obtain ⟨x, hx, rfl⟩ := List.mem_map.mp this
    exact ⟨x, hx, rfl⟩
  have eo : out.map (fun v => Value.ref (adr v)) = out := by
    have : out.map (fun v => Value.ref (adr v)) = out.map id := List.map_congr_left fun v hv => by
      obtain ⟨x, _, rfl⟩ := outr v hv
      rfl
    rw [this, List.map_id]
  have hlen : ((out.map adr).map V.ref).length ≤ sizeLine := by
    rw [List.length_map, List.length_map, z2.perm.length_eq]; exact hal2
  have rv : Vals ((out.map adr).map V.ref) out := by
    have := vals_refs (out.map adr)
    rw [List.map_map (f := adr) (g := Value.ref), show (Value.ref ∘ adr) = fun v => Value.ref (adr v) from rfl, eo] at this
    exact this
  have pys : (out.map (kH H)).Perm ks := by
    have := z2.perm.map (kH H)
    rw [ea, List.map_map] at this
    rw [← hk1]; exact this
  have pp : Paired (PrT H) (out.map adr) (out.map (kH H)) := by
    clear pys rv hlen eo hc z1 z2 q
    induction out with
    | nil => exact .nil
    | cons v l ih =>
      refine .cons ?_ (ih fun v hv => outr v (List.mem_cons_of_mem _ hv))
      obtain ⟨x, hx, rfl⟩ := outr v List.mem_cons_self
      exact hk2 x hx
  refine wpAny_pure ⟨_, rfl, .ref h'.objs.size, upd H h'.objs.size (.lst ((out.map adr).map V.ref)), I1.laid (t' := tk) (fun b u e => ?_) (Nat.le_refl _)
    (show ObjOk X.prog X.w _ _ _ (.lst ((out.map adr).map V.ref)) from ⟨hlen, out, c, rv, hc⟩), rfl, q _ _ _ pys (List.pairwise_map.mpr z1) pp (I1.hok.fresh (Nat.le_refl _))⟩
  have hb : b < h'.objs.size := Heap.lt_size e
  rw [sortedHeap_old (Nat.ne_of_lt hb) (by rw [size_push']; exact Nat.lt_succ_of_lt hb)]
  exact Heap.get?_push_of_some _ e
end
theorem v_sortedP {a : Addr} {kvs : List TX} {ks : List (Int × Int)} {H : Hp} {Q : VK} (h : H a = some (.dT kvs)) (e : kvs.map (·.1) = ks.map pk) (k : ∀ (bs : List Addr) (ys : List (Int × Int)) (p : Addr), ys.Perm ks → RisP ys → Paired (PrT H) bs ys → H p = none → Q (.ref p) (upd H p (.lst (bs.map V.ref)))) : uSortDictP [.ref a] H Q :=
  ⟨a, kvs, ks, rfl, h, e, k⟩
/-- {k: v} with one flat tuple for a key -/
def uDispT (tk tv : TE) : TE := fun σ H Q => ∀ p, H p = none → tk σ (upd H p (.dT [])) fun x H1 => tv σ H1 fun y H2 =>
  ∃ (k : List L2.Key) (b : Addr), x = .ref b ∧ H2 p = some (.dT []) ∧ H2 b = some (.tup (k.map kV)) ∧ Q (.ref p) (upd H2 p (.dT [(k, y)]))
theorem pe_dispT {X : Cx} {ke ve : Expr} {tk tv : TE} {pos : Pos} (hu : X.A.units + 64 < cLine) (hk : PE X ke tk) (hv : PE X ve tv)
    (shape : (evalEachOpt [some ke] X.env).zip ((evalEach [ve] X.env).map fun v => do let x ← v; standAt pos; pure x) = [(eval ke X.env, (do let x ← eval ve X.env; standAt pos; pure x))].map fun p => (some p.1, p.2) := by rfl) :
    PE X (.Dict [some ke] [ve] pos) (uDispT tk tv) := by
  refine ⟨fun pins s σ H Q I h => ?_⟩
  have hn := I.hok.fresh (Nat.le_refl s.heap.objs.size)
  have I1 := I.laid (a := s.heap.objs.size) (o := .dT []) (h' := s.heap.push { cls := .type "dict", data := .dict #[] }) (t' := s.toks) (fun _ _ q => Heap.get?_push_of_some _ q) (Nat.le_refl _) (dt_empty s.heap I.big)
  have h1 : PPs X pos [some ke] [ve] [(tk, tv)] := pps_cons hk hv pps_nil
  have trees : pairTrees [some ke] [ve] X.env pos = [(eval ke X.env, (do let x ← eval ve X.env; standAt pos; pure x))] := by rfl
  have run := h1.run pins _ σ _ (fun ps H2 => match ps with
    | [(x, y)] => ∃ (k : List L2.Key) (b : Addr), x = .ref b ∧ H2 s.heap.objs.size = some (.dT []) ∧ H2 b = some (.tup (k.map kV)) ∧ Q (.ref s.heap.objs.size) (upd H2 s.heap.objs.size (.dT [(k, y)]))
    | _ => False) I1 (h _ hn)
  rw [trees] at run
  rw [arm_eval_Dict, shape, dictDisplay_pairs _ (by simp) (by simp)]
  refine wpAny_bind (wpAny_standAt (wpAny_bind (wpAny_subDictH (knd := tupleKind (mixKind X.prog X.w)) (show X.A.units < cLine by omega) (by simp) (thn run fun vs s2 hh => ?_))))
  obtain ⟨ps, H2, I2, rel, q⟩ := hh
  split at q
  · rename_i x y
    obtain ⟨k, b, rfl, e, eb, q⟩ := q
    cases rel with
    | @cons p1 q1 ps qs rr t =>
    cases t
    obtain ⟨u1, u2⟩ := q1
    obtain ⟨r1, r2⟩ := rr
    cases (show u1 = Value.ref b from r1)
    obtain ⟨z, hd, xs, rr, D⟩ := dt_of I2.hok e
    cases rr
    refine ⟨[(k, b, u2)], ⟨rfl, rfl, key_of I2.hok eb, True.intro⟩, D, fun h' tk' D' hs => wpAny_pure ⟨.ref s.heap.objs.size, _, ?_, rfl, q⟩⟩
    obtain ⟨q', es, ep, hq, h2, h3, h4, _, h5⟩ := id D'
    refine d_write I2 (by rw [e]; exact True.intro) hs ⟨q', hq⟩ ⟨by rw [sizeLine_eq]; exact (by decide : (1 : Nat) ≤ 16777216), hd, [(k, b, u2)], .cons ⟨rfl, ?_, r2⟩ .nil, q', es, ep, hq, h2, h3, h4, h5⟩
    show upd H2 _ _ b = _
    rw [upd_ne (ne_of eb e (fun z => nomatch z))]
    exact eb
  · exact q.elim
/-! ### loops that change one slot -/
section
variable {K : PySem.W.Frag} {a : Addr} {tb : TS} {D : Ends} {σ : L2.St} {H : Hp} {i : Nat}
theorem forI {l : List Int} (Pv : Nat → Hp → Prop) (hl : ∀ j H', Pv j H' → H' a = some (.lst (l.map V.int))) (o0 : Option V) (e0 : σ.set i o0 = σ) (h0 : Pv 0 H)
    (hs : ∀ j z H', l[j]? = some z → Pv j H' → tb { D with nx := fun s h => ∃ o, s = σ.set i o ∧ Pv (j + 1) h, ct := fun s h => ∃ o, s = σ.set i o ∧ Pv (j + 1) h, bk := D.nx } (σ.set i (some (.int z))) H')
    (hd : ∀ o H', Pv l.length H' → D.nx (σ.set i o) H') : kFor (Itl K a) (gName i) tb D σ H := by
  refine for_list (xs := l.map V.int) (fun j s H' => ∃ o, s = σ.set i o ∧ Pv j H') ⟨o0, e0.symm, h0⟩ (fun j s H' _ ⟨_, _, h⟩ => SqL.of (hl j H' h)) ?_ ?_
  · rintro j x s H' hj ⟨o, rfl, h⟩
    rw [List.getElem?_map] at hj
    obtain ⟨z, hz, rfl⟩ := Option.map_eq_some_iff.mp hj
    refine r_gname ?_
    rw [List.set_set]
    exact hs j z H' hz h
  · rintro s H' ⟨o, rfl, h⟩
    rw [List.length_map] at h
    exact hd o H' h
end
theorem forI2 {K : PySem.W.Frag} {a : Addr} {tb : TS} {D : Ends} {σ : L2.St} {H : Hp} {i k : Nat} {l : List Int} (Pv : Nat → Hp → Prop) (hl : ∀ j H', Pv j H' → H' a = some (.lst (l.map V.int))) (o0 p0 : Option V) (e0 : (σ.set i o0).set k p0 = σ) (hik : i ≠ k) (h0 : Pv 0 H)
    (hs : ∀ j z H' (p : Option V), l[j]? = some z → Pv j H' → tb { D with nx := fun s h => ∃ o p, s = (σ.set i o).set k p ∧ Pv (j + 1) h, ct := fun s h => ∃ o p, s = (σ.set i o).set k p ∧ Pv (j + 1) h, bk := D.nx } ((σ.set i (some (.int z))).set k p) H')
    (hd : ∀ o p H', Pv l.length H' → D.nx ((σ.set i o).set k p) H') : kFor (Itl K a) (gName i) tb D σ H := by
  refine for_list (xs := l.map V.int) (fun j s H' => ∃ o p, s = (σ.set i o).set k p ∧ Pv j H') ⟨o0, p0, e0.symm, h0⟩ (fun j s H' _ ⟨_, _, _, h⟩ => SqL.of (hl j H' h)) ?_ ?_
  · rintro j x s H' hj ⟨o, p, rfl, h⟩
    rw [List.getElem?_map] at hj
    obtain ⟨z, hz, rfl⟩ := Option.map_eq_some_iff.mp hj
    refine r_gname ?_
    rw [List.set_comm _ _ (Ne.symm hik), List.set_set]
    exact hs j z H' p hz h
  · rintro s H' ⟨o, p, rfl, h⟩
    rw [List.length_map] at h
    exact hd o p H' h
theorem r_ikeysT {td : TE} {σ : L2.St} {H : Hp} {R : It → Hp → Prop} (k : td σ H fun x H1 => ∃ d o, x = .ref d ∧ ((∃ kvs, H1 d = some (.frz o (.dK kvs)) ∧ R (Itk d o kvs) H1) ∨ ∃ kvs, H1 d = some (.frz o (.dT kvs)) ∧ R (Itkt d o kvs) H1)) : iKeys td σ H R := k
/-- a walk over the keys of a dict that is locked for it -/
theorem forT {d : Addr} {o : Obj} {kvs : List TX} {ks : List (Int × Int)} {g : TG} {tb : TS} {D : Ends} {σ : L2.St} {H : Hp} (ke : kvs.map (·.1) = ks.map pk) (Pv : Nat → L2.St → Hp → Prop) (h0 : Pv 0 σ H) (hl : ∀ j σ H, Pv j σ H → H d = some (.frz o (.dT kvs)))
    (hs : ∀ j z q σ H, ks[j]? = some z → Pv j σ H → PrT H q z → g (.ref q) σ H fun σ2 H2 => tb { D with nx := Pv (j + 1), ct := Pv (j + 1), bk := D.nx } σ2 H2)
    (hd : ∀ σ H, Pv ks.length σ H → D.nx σ H) : kFor (Itkt d o kvs) g tb D σ H := by
  have len : kvs.length = ks.length := by have := congrArg List.length ke; rw [List.length_map, List.length_map] at this; exact this
  refine ⟨fun i m σ H => m = ks.length - i ∧ i ≤ ks.length ∧ Pv i σ H, ⟨_, rfl, Nat.zero_le _, h0⟩, ?_⟩
  rintro i m σ H ⟨rfl, hi, p⟩
  by_cases lt : i < ks.length
  · refine .inr ⟨⟨hl _ _ _ p, by omega⟩, Pv (i + 1), fun σ' H' p' => ⟨ks.length - (i + 1), by omega, rfl, lt, p'⟩, fun x H' y => ?_⟩
    obtain ⟨rfl, k, v, q, e1, rfl, e2⟩ := y
    have hz := List.getElem?_eq_getElem lt
    have e3 : (kvs.map (·.1))[i]? = some k := by rw [List.getElem?_map, e1]; rfl
    rw [ke, List.getElem?_map, hz] at e3
    cases e3
    exact hs i _ q σ _ hz p e2
  · have e : i = ks.length := by omega
    subst e
    exact .inl ⟨⟨hl _ _ _ p, by omega⟩, hd σ H p⟩
theorem lock_keep {M : Addr → Prop} {H H' : Hp} {d : Addr} {u f : HO} (h : H d = some u) (k : Keep M (upd H d f) H') : Keep M H (upd H' d u) := fun a o n e => by
  by_cases z : a = d
  · subst z
    rw [h] at e; rw [upd_same]; exact e
  · rw [upd_ne z]
    exact k a o n (by rw [upd_ne z]; exact e)
theorem find_at {α : Type} {p : α → Bool} {l : List α} {j : Nat} {x : α} (h : l[j]? = some x) (n : ∀ y ∈ l.take j, p y = false) (hx : p x = true) : l.find? p = some x := by
  have e : l = l.take j ++ x :: l.drop (j + 1) := by
    obtain ⟨hl, rfl⟩ := List.getElem?_eq_some_iff.mp h
    rw [List.getElem_cons_drop, List.take_append_drop]
  rw [e, List.find?_append, List.find?_eq_none.mpr (fun y hy => by simp [n y hy]), Option.none_or, List.find?_cons_of_pos hx]
theorem find_no {α : Type} {p : α → Bool} {l : List α} (n : ∀ y ∈ l, p y = false) : l.find? p = none := List.find?_eq_none.mpr fun y hy => by simp [n y hy]
theorem take_snoc {α : Type} {l : List α} {j : Nat} {x : α} (h : l[j]? = some x) {P : α → Prop} (a : ∀ y ∈ l.take j, P y) (b : P x) : ∀ y ∈ l.take (j + 1), P y := fun y hy => by
  rw [List.take_succ, h] at hy
  rcases List.mem_append.mp hy with q | q
  · exact a y q
  · cases List.mem_singleton.mp q; exact b
/-! ### a text among texts -/
theorem inV_str {z : Str} (os : List Str) : inV (.str z) (os.map V.str) = decide (z ∈ os) := by
  unfold inV
  rw [List.any_map]
  by_cases h : z ∈ os
  · rw [decide_eq_true h]
    exact List.any_eq_true.mpr ⟨z, h, by simp [Function.comp, eqV]⟩
  · rw [decide_eq_false h]
    exact List.any_eq_false.mpr fun y hy => by
      simp only [Function.comp, eqV, beq_iff_eq]
      exact fun e => h (e ▸ hy)
theorem flat_strs : ∀ os : List Str, (os.map V.str).all flatV = true
  | [] => rfl
  | x :: r => by rw [List.map_cons, List.all_cons, flat_strs r]; rfl
theorem v_ninSt {P : Program} {w : World} {K : PySem.W.Frag} {H : Hp} {Q : VK} {l : Addr} {os : List Str} {z : Str} (h : H l = some (.tup (os.map V.str))) (q : Q (.bl (!decide (z ∈ os))) H) : cNotIn P w K (.str z) (.ref l) H Q :=
  .inl ⟨l, os.map V.str, rfl, .inr (SqT.of h), rfl, flat_strs os, by rw [if_pos rfl, inV_str]; exact q⟩
theorem v_inSt {P : Program} {w : World} {K : PySem.W.Frag} {H : Hp} {Q : VK} {l : Addr} {os : List Str} {z : Str} (h : H l = some (.tup (os.map V.str))) (q : Q (.bl (decide (z ∈ os))) H) : cIn P w K (.str z) (.ref l) H Q :=
  .inl ⟨l, os.map V.str, rfl, .inr (SqT.of h), rfl, flat_strs os, by rw [if_neg (by decide), inV_str]; exact q⟩
theorem v_ninSl {P : Program} {w : World} {K : PySem.W.Frag} {H : Hp} {Q : VK} {l : Addr} {os : List Str} {z : Str} (h : H l = some (.lst (os.map V.str))) (q : Q (.bl (!decide (z ∈ os))) H) : cNotIn P w K (.str z) (.ref l) H Q :=
  .inl ⟨l, os.map V.str, rfl, .inl (SqL.of h), rfl, flat_strs os, by rw [if_pos rfl, inV_str]; exact q⟩
theorem v_inSl {P : Program} {w : World} {K : PySem.W.Frag} {H : Hp} {Q : VK} {l : Addr} {os : List Str} {z : Str} (h : H l = some (.lst (os.map V.str))) (q : Q (.bl (decide (z ∈ os))) H) : cIn P w K (.str z) (.ref l) H Q :=
  .inl ⟨l, os.map V.str, rfl, .inl (SqL.of h), rfl, flat_strs os, by rw [if_neg (by decide), inV_str]; exact q⟩
theorem RpA.bools_ {W : Addr → Prop} {H : Hp} : ∀ {l : List Bool} {vs : List V}, RpA W H vs (l.map .bool) → vs = l.map V.bl
  | [], _, h => h.nil_
  | x :: l, _, h => by
    obtain ⟨v, r, rfl, h1, h⟩ := h.cons_
    rw [h1.bool_, RpA.bools_ h]; rfl
theorem inV_bl {z : Bool} (os : List Bool) : inV (.bl z) (os.map V.bl) = decide (z ∈ os) := by
  unfold inV
  rw [List.any_map]
  by_cases h : z ∈ os
  · rw [decide_eq_true h]
    exact List.any_eq_true.mpr ⟨z, h, by simp [Function.comp, eqV]⟩
  · rw [decide_eq_false h]
    exact List.any_eq_false.mpr fun y hy => by
      simp only [Function.comp, eqV, beq_iff_eq]
      exact fun e => h (e ▸ hy)
theorem flat_bls : ∀ os : List Bool, (os.map V.bl).all flatV = true
  | [] => rfl
  | x :: r => by rw [List.map_cons, List.all_cons, flat_bls r]; rfl
theorem v_inBl {P : Program} {w : World} {K : PySem.W.Frag} {H : Hp} {Q : VK} {W : Addr → Prop} {x : V} {os : List Bool} {z : Bool} (h : Rp W H x (.list (os.map .bool))) (q : Q (.bl (decide (z ∈ os))) H) : cIn P w K (.bl z) x H Q := by
  obtain ⟨l, xs, rfl, e, _, r⟩ := h.list_
  rw [r.bools_] at e
  exact .inl ⟨l, os.map V.bl, rfl, .inl (SqL.of e), rfl, flat_bls os, by rw [if_neg (by decide), inV_bl]; exact q⟩
theorem v_ninBl {P : Program} {w : World} {K : PySem.W.Frag} {H : Hp} {Q : VK} {W : Addr → Prop} {x : V} {os : List Bool} {z : Bool} (h : Rp W H x (.list (os.map .bool))) (q : Q (.bl (!decide (z ∈ os))) H) : cNotIn P w K (.bl z) x H Q := by
  obtain ⟨l, xs, rfl, e, _, r⟩ := h.list_
  rw [r.bools_] at e
  exact .inl ⟨l, os.map V.bl, rfl, .inl (SqL.of e), rfl, flat_bls os, by rw [if_pos rfl, inV_bl]; exact q⟩
/-! ### dicts keyed by pairs, truths in them -/
def BlV (kvs : List TX) : Prop := ∀ k v, valV kvs k = some v → ∃ b, v = .bl b
def gK (kvs : List TX) (x y : Int) : Bool := match valV kvs (pk (x, y)) with
  | some (.bl b) => b
  | _ => false
theorem gK_get {kvs : List TX} (h : BlV kvs) (x y : Int) : (valV kvs (pk (x, y))).getD (.bl false) = .bl (gK kvs x y) := by
  unfold gK
  cases e : valV kvs (pk (x, y)) with
  | none => rfl
  | some v =>
    obtain ⟨b, rfl⟩ := h _ v e
    rfl
theorem r_dg2 {td ty tx : TE} {σ : L2.St} {H : Hp} {Q : VK} (k : td σ H fun x H1 => ∃ a, x = .ref a ∧ IsD H1 a ∧ ty σ H1 fun y H2 => tx σ H2 fun z H3 => ∃ o, DGet H3 a y o ∧ Q (o.getD z) H3) : tDGet2 td ty tx σ H Q := k
/-- d.get((x, y), False), x and y in slots -/
theorem r_getP {ik ia ib : Nat} {kn : Addr} {kvs : List TX} {x y : Int} {σ : L2.St} {H : Hp} {Q : VK} (hk : σ[ik]? = some (some (.ref kn))) (ha : σ[ia]? = some (some (.int x))) (hb : σ[ib]? = some (some (.int y))) (e : Rd H kn (.dT kvs)) (bl : BlV kvs)
    (q : ∀ H', Keep Nil H H' → Q (.bl (gK kvs x y)) H') : tDGet2 (tVar ik) (tTup (tCons (tVar ia) (tCons (tVar ib) tNil))) (tC (.bl false)) σ H Q := by
  refine r_dg2 (r_var hk ⟨kn, rfl, .inr ⟨kvs, e⟩, r_tup (r_cons (r_var ha (r_cons (r_var hb (r_nil (r_ktup (by simp) fun p hp => r_c ?_))))))⟩)
  have kp : Keep Nil H (upd H p (.tup [.int x, .int y])) := Keep.alloc hp
  have e' : Rd (upd H p (.tup [.int x, .int y])) kn (.dT kvs) := e.imp (fun z => kp.get (fun z => z) z) fun ⟨o, z⟩ => ⟨o, kp.get (fun z => z) z⟩
  have g : DGet (upd H p (.tup [.int x, .int y])) kn (.ref p) (valV kvs (pk (x, y))) := .inr ⟨kvs, pk (x, y), p, e', rfl, upd_same, rfl⟩
  exact ⟨_, g, by rw [gK_get bl]; exact q _ kp⟩
end Hm

/-! F7: an except suite in which the error is known: isinstance of it there, calls of defs there. -/
namespace Hm
open PySem PySem.Spec PyProof.Rows L2
section
variable {X : Cx} {pins : List (Addr × Obj)} {σ : L2.St} {H : Hp} {s : Shared}
theorem suiteM (I : Inv X pins σ H s) (a : Addr) : Inv (X.suite a (X.pn ++ pins)) [] σ H s :=
  ⟨I.ok.suite _ _, I.os, I.bare, I.base, I.loc, I.cell, I.free, I.freeC, fun p hp => I.pin p (by rw [List.append_nil] at hp; exact hp), I.hok, I.len⟩
theorem unsuiteM {a : Addr} {pn' : List (Addr × Obj)} (I : Inv (X.suite a (X.pn ++ pins)) pn' σ H s) (ok : X.Ok) : Inv X pins σ H s :=
  ⟨ok, I.os, I.bare, I.base, I.loc, I.cell, I.free, I.freeC, fun p hp => I.pin p (List.mem_append_left _ hp), I.hok, I.len⟩
end
/-- what a clause «except c as n» wishes, the error known in its suite -/
def wValW (K : PySem.W.Frag) (c : Value) (i : Nat) (ts : Addr → Value → TS) (Wout : WX) (D : Ends) : WX := fun cls d σ H =>
  d = none ∧ ∃ b, PySem.W.exmOne K cls c = some b ∧
    (b = true → ∀ a, H a = none → ts a cls { nx := fun σ' H' => D.nx (σ'.set i none) H', rt := D.rt, bk := fun _ _ => False, ct := fun _ _ => False } (σ.set i (some (.ref a))) (upd H a (ExV cls a))) ∧ (b = false → Wout cls d σ H)
section
variable {X : Cx} {x n : Str} {c : Value} {i : Nat} {body suite : List Stmt} {b₀ : Stmt} {np pos pos' : Pos} {tb : WX → TS} {ts : Addr → Value → TS} {Wout : WX}
/-- try: body, except x as n: suite; what is caught stays an object that is known -/
theorem ps_try_valW (hs : X.stack = X.env :: X.outer) (hf : X.env.frame = some X.env.locals) (hN : X.N.Nodup) (hi : X.N[i]? = some n) (hln : X.env.kindOf n = some .local) (hc : Names X x c) (tk : Takes X Wout) (hex : X.ex = [])
    (hb : ∀ (W : WX) (pn : List (Addr × Obj)) (xe : Value → Shared → Prop), Takes (X.tr pn xe) W → PassesOwn (model X.prog X.w) X.A X.env xe → PSs (X.tr pn xe) body (tb W))
    (hsu : ∀ (a : Addr) (cls : Value) (pn : List (Addr × Obj)), PSs (X.suite a pn) (b₀ :: suite) (ts a cls)) :
    PS X (.Try body [.ExceptHandler (some (.Name x np)) (some n) (b₀ :: suite) pos'] [] [] pos) (fun D σ H => tb (wValW X.K c i ts Wout D) D σ H) := by
  refine ⟨fun pins s σ H D I h => wpAny_Try_except ?_⟩
  have ok := I.ok
  have hfr : X.A.frames = some (X.env :: X.outer) := by rw [ok.frames, hs]
  have run := (hb (wValW X.K c i ts Wout D) (X.pn ++ pins) (fun e s₁ => wpAny (model X.prog X.w) X.A (noteFrame e X.env) (fun _ s₂ => wpAny (model X.prog X.w) X.A (setFlight e none)
    (fun _ s₃ => wpAny (model X.prog X.w) X.A (handleBy e X.env [.ExceptHandler (some (.Name x np)) (some n) (b₀ :: suite) pos']) (SP X pins D) X.xe s₃) X.xe s₂) X.xe s₁) ?_ PassesOwn.looking).run [] s σ H D (I.toTry _) h
  · refine wpAny_mono run (fun f s1 hsp => ?_) fun _ _ z => z
    cases f with
    | next => obtain ⟨σ', H', J', q⟩ := hsp; exact wpAny_execs_nil ⟨σ', H', J'.ofTry ok, q⟩
    | brk => obtain ⟨σ', H', J', q⟩ := hsp; exact ⟨σ', H', J'.ofTry ok, q⟩
    | cont => obtain ⟨σ', H', J', q⟩ := hsp; exact ⟨σ', H', J'.ofTry ok, q⟩
    | ret u => obtain ⟨v, σ', H', J', r, q⟩ := hsp; exact ⟨v, σ', H', J'.ofTry ok, r, q⟩
  rintro u s' ⟨a, B, sI, pins', σ', H', cls, d, rfl, J', nb, up, sky, na, os, ag, rfl, b, hb1, hyes, hno⟩
  have J : Inv X pins σ' H' sI := J'.ofTry ok
  have air : Sky B (X.env :: X.outer) a (Zc cls none) X.env.locals s'.heap := by rw [← hs]; exact sky
  show wpAny (model X.prog X.w) X.A (noteFrame (.ref a) X.env) _ _ _
  refine Sky.land Zc.steady hfr hf air fun h3 fl3 up3 => ?_
  have J3 : Inv X pins σ' H' { s' with heap := h3 } := J.landed nb fl3.1 (up.trans up3) os ag
  obtain ⟨oe3, vs3, he3, hz3, hd3⟩ := fl3.there
  have aside : a ∉ frs (X.env :: X.outer) := fun hm => by
    obtain ⟨_, o', e', hnf⟩ := fl3.2.2.1.mem hm
    rw [he3] at e'; cases e'
    exact hnf _ hd3
  have gI : sI.heap.get? a = none := by
    cases e : sI.heap.get? a with
    | none => rfl
    | some o =>
      have q := nb a o e (by show a ∉ frs X.stack; rw [hs]; exact aside)
      rw [fl3.2.1] at q; cases q
  have nL : a ≠ X.env.locals := fun z => aside (List.mem_filterMap.mpr ⟨X.env, List.mem_cons_self, by rw [hf, z]⟩)
  have nF : a ∉ X.fs := fun hm => by
    obtain ⟨e, he, q⟩ := List.mem_filterMap.mp hm
    exact aside (List.mem_filterMap.mpr ⟨e, List.mem_cons_of_mem _ he, q⟩)
  have h00 : X.s_0.heap.get? a = none := by
    cases e : X.s_0.heap.get? a with
    | none => rfl
    | some o =>
      obtain ⟨o', q⟩ := J.base.there a o e (by rw [hex]; exact List.not_mem_nil)
      rw [gI] at q; cases q
  have noCell : ∀ y k, X.env.cells.lookup y = some k → k ≠ a := fun y k e z => by
    obtain ⟨v, o, q, _⟩ := J.cell y k e
    rw [z, gI] at q; cases q
  have noPin : ∀ p ∈ X.pn ++ pins, p.1 ≠ a := fun p hp z => by
    have q := (J.pin p hp).1
    rw [z, gI] at q; cases q
  have S3 := J3.suite he3 hd3 na nL nF
  refine wpAny_handleBy_cons (codeAny_handlers_test ?_) (by intro q; cases q)
  have LT : PySem.W.Looks (model X.prog X.w) h3 (typeOf (.ref a)) cls := fun A Q E s k q => wpAny_typeOf_ref (k _ _ he3) (by rw [hz3.1]; exact q)
  have LM := PySem.W.exm_one (M := model X.prog X.w) (J3.kIn) LT hb1
  have test : ∀ {Q : Value → Shared → Prop} {E : Value → Shared → Prop}, Q c { s' with heap := h3 } → wpAny (model X.prog X.w) (X.A.mark (some (.ref a))) (eval (.Name x np) X.env) Q E { s' with heap := h3 } := fun {Q E} q => by
    obtain ⟨hg, hdbg, hm | ⟨hm, hv, hnn⟩⟩ := hc
    · exact ld_glob (X := X.suite a ((a, oe3) :: (X.pn ++ pins))) S3 hg hm q hdbg
    · exact ld_blt (X := X.suite a ((a, oe3) :: (X.pn ++ pins))) S3 hg hm hv q hnn hdbg
  refine test (LM.here ?_)
  cases b with
  | false =>
    show wpAny _ X.A (handleBy (.ref a) X.env []) _ _ _
    refine wpAny_handleBy_nil ?_
    obtain ⟨k1, k2, k3, oe, vs, T, oT, ts', he, hz, hd, h1, hr⟩ := id fl3
    unfold PySem.passOn
    refine wpAny_bind (wpAny_field he hd h1 ?_)
    rw [if_neg (show ¬ ((Value.ref T == Value.none) = true) from by simp)]
    have fin : wpAny (model X.prog X.w) X.A (setFlight (.ref a) X.env.frame) (fun _ s4 => wpAny (model X.prog X.w) X.A (throw (.ref a) : Sem Flow) (SP X pins D) X.xe s4) X.xe { s' with heap := h3 } := by
      rw [hf]
      refine HandSPX.setFlight_upZ fl3 fun h4 hh4 up4 => wpAny_throw (tk _ _ ?_)
      exact ⟨a, B, sI, pins, σ', H', cls, none, rfl, J, nb, (up.trans up3).trans up4, .inr (.inr (by rw [hs]; exact hh4)), na, os, ag, hno rfl⟩
    first
      | exact wpAny_bind (wpAny_pure (wpAny_bind fin))
      | exact wpAny_bind fin
  | true =>
    refine codeAny_handlers_suite_as (HandSPX.lands_againZ fl3 fun h4 fl4 up4 => ?_)
    have J4 : Inv X pins σ' H' { s' with heap := h4 } := J.landed nb fl4.1 ((up.trans up3).trans up4) os ag
    obtain ⟨oe4, vs4, he4, hz4, hd4⟩ := fl4.there
    have S3' : Inv (X.suite a (X.pn ++ pins)) [] σ' H' { s' with heap := h4 } := suiteM J4 a
    have S4 := show_ (φ := fun h => ∃ (oe : Obj) (vs : Array Value), h.get? a = some oe ∧ Zc cls none oe ∧ oe.data = .fields vs) S3' na h00 nL.symm noCell (fun p hp => noPin p (by rw [List.append_nil] at hp; exact hp)) (exV_ok he4 hz4 hd4)
    refine store_ok (X := X.suite a (X.pn ++ pins)) (v := .ref a) S4 hN hi (.inl hln) rfl (fun s5 S5 => ?_) (.inr hln)
    refine wpAny_mono ((hsu a cls (X.pn ++ pins)).run [] s5 _ _ _ S5 (hyes rfl a na)) (fun f s6 hsp => ?_) (fun _ _ z => False.elim z)
    cases f with
    | next =>
      obtain ⟨σ6, H6, S6, q6⟩ := hsp
      exact gone_ok (unsuiteM S6 ok) hN hi hln fun s7 J8 => ⟨_, _, J8, q6⟩
    | brk => obtain ⟨σ6, H6, S6, q6⟩ := hsp; exact q6.elim
    | cont => obtain ⟨σ6, H6, S6, q6⟩ := hsp; exact q6.elim
    | ret u =>
      obtain ⟨v6, σ6, H6, S6, r6, q6⟩ := hsp
      exact gone_ok (unsuiteM S6 ok) hN hi hln fun s7 J7 => ⟨_, _, _, J7, r6, q6⟩
end
/-! ### defs that are called in an except suite -/
structure FnM (P : Program) (w : World) (K : PySem.W.Frag) (mg : Str → Option Value) (base : Heap) (CX : CXT) (k : Nat) (f : Addr) (fd : FuncData) (ps : List Str) (sp : Sp) : Prop where
  len : ∀ vs H Q E, sp vs H Q E → vs.length = ps.length
  run : ∀ (A : Around) (outer : List Env) (s : Shared) (H : Hp) (args : Args) (us : List Value) (vs : List V) (Q : VK) (E : XK), L2H.RoomH k A → Env0 P w K mg base A outer s H → BindsTo s fd args (ps.zip us) → Vals vs us → sp vs H Q E →
    codeAny (model P w) A (.call (.ref f) args) (CR CX outer P w H s Q E) s
def cxM (CX : CXT) (P : Program) (w : World) (K : PySem.W.Frag) (mg : Str → Option Value) (base : Heap) (N : List Str) (qual : Str) (scope : Scope) (f : Addr) (cd : Value) (A : Around) (outer : List Env) (s : Shared) (H : Hp) (E : XK) : Cx :=
  { cxOf CX P w K mg base N qual scope f cd A outer s H E with calm := false }
theorem inv_startM {CX : CXT} {P : Program} {w : World} {K : PySem.W.Frag} {mg : Str → Option Value} {base : Heap} {N ps : List Str} {qual : Str} {scope : Scope} {f : Addr} {cd : Value} {A : Around} {outer : List Env} {s s1 : Shared} {H : Hp} {E : XK} {us : List Value} {vs : List V}
    (S : FnScope N ps scope) (e0 : Env0 P w K mg base A outer s H) (hl : vs.length = ps.length) (r : Vals vs us)
    (x : InCallC s s.heap.objs.size (bindL (envOfC qual scope s.heap.objs.size f cd).kindOf (ps.zip us) fun _ => none) (cellsFrom (s.heap.objs.size + 1) scope.names []) (bindC (envOfC qual scope s.heap.objs.size f cd).kindOf (ps.zip us) fun _ => none) s1) :
    Inv (cxM CX P w K mg base N qual scope f cd A outer s H E) [] (L2.start N vs) H s1 := by
  have I := inv_start (CX := CX) (E := E) (A := { A with handled := none }) S rfl ⟨e0.frames, e0.mod, e0.bs, e0.bsz, e0.funs, e0.frf, e0.hok, e0.bare⟩ hl r x
  have o := I.ok
  exact ⟨⟨o.mod, o.kind, o.glob, o.blt, o.above, o.inj, o.has, o.cab, fun z => Bool.noConfusion (show false = true from z), Around.frames_deeper e0.frames, o.stk, o.exf, o.bs, o.bsz, o.noex, o.exfs, o.funs, o.frf⟩, I.os, I.bare, I.base, I.loc, I.cell, I.free, I.freeC, I.pin, I.hok, I.len⟩
theorem fn_ofM {P : Program} {w : World} {K : PySem.W.Frag} {mg : Str → Option Value} {base : Heap} {k : Nat} {x qual : Str} {st : Stmt} {f : Addr} {fd : FuncData} {N ps : List Str} {sp : Sp} (F : Fun K x qual st f fd) (S : FnScope N ps (defScope st))
    (len : ∀ vs H Q E, sp vs H Q E → vs.length = ps.length)
    (hbody : ∀ (cdv : Value) (A : Around) (outer : List Env) (s : Shared) (H : Hp) (vs : List V) (Q : VK) (E : XK), L2H.RoomH k (A.deeper (envOfC qual (defScope st) s.heap.objs.size f cdv)) → sp vs H Q E →
      ∃ t, PSs (cxM CX0 P w K mg base N qual (defScope st) f cdv A outer s H E).nox (defBody st) t ∧ t { nx := fun _ H' => Q .non H', rt := Q } (L2.start N vs) H) :
    FnM P w K mg base CX0 (k + 1) f fd ps sp := by
  obtain ⟨oc, od, kV, doc, pm, an, cdv, ct, osl, rfl, lk, hcd⟩ := F.ex
  refine ⟨len, fun A outer s H args us vs Q E hr e0 hb r hsp => ?_⟩
  have KX : K.In s.heap := e0.mod.kin.keeps fun b o e => (e0.bs b o e).1
  refine codeAny_call_function hr.depth (KX _ _ lk) rfl S.co S.gen rfl (PySem.W.codeRec_of KX hcd) (hb _ _ _ _ ?_)
  refine wpAny_newFunctionEnv_cells S.kind (fun ⟨n, v⟩ hy => (S.par n (List.of_mem_zip hy).1).imp id fun q => ⟨q, PySem.W.cellsFrom_some _ _ _ (.inl q)⟩) fun env he s1 x => ?_
  subst he
  refine ⟨(e0.mod.nolimit.keeps fun b o e => (e0.bs b o e).1).keeps x.toInCall.keep, codeAny_func ?_⟩
  obtain ⟨t, ht, hq⟩ := hbody cdv A outer s H vs Q E (hr.deeper _) hsp
  refine wpAny_mono (ht.nox.run [] s1 (L2.start N vs) H _ (inv_startM S e0 (len _ _ _ _ hsp) r x) hq) (fun fl s' hs => ?_) fun e s' hs => hs
  cases fl with
  | ret u =>
    obtain ⟨v, σ', H', J, rv, q⟩ := hs
    exact ⟨v, H', J.os, J.bare, J.base, J.hok, rv, q⟩
  | next =>
    obtain ⟨σ', H', J, q⟩ := hs
    exact ⟨V.non, H', J.os, J.bare, J.base, J.hok, rfl, q⟩
  | brk =>
    obtain ⟨_, _, _, q⟩ := hs
    exact q.elim
  | cont =>
    obtain ⟨_, _, _, q⟩ := hs
    exact q.elim
structure CalM (P : Program) (w : World) (K : PySem.W.Frag) (mg : Str → Option Value) (base : Heap) (k : Nat) (x : Str) (sp : Sp) : Prop where
  ex : ∃ (f : Addr) (fd : FuncData) (ps : List Str), FnM P w K mg base CX0 k f fd ps sp ∧ mg x = some (.ref f) ∧ PySem.W.keepIn K (.ref f) = true ∧ Binds K fd ps []
section
variable {X : Cx} {k j : Nat} {x m : Str} {sp : Sp} {p pos apos : Pos} {e o : Expr} {es : List Expr} {ta : TE} {t : TA}
theorem e_callM (c : CalM X.prog X.w X.K X.mg X.base k x sp) (hr : L2H.RoomH j X.A) (hk : k ≤ j) (hg : Gl X x) (ha : PA X (e :: es) t)
    (hdb : (x == ("__debug__" : Str)) = false := by decide) (he : starEach (e :: es) X.env = (false, eval e X.env) :: starEach es X.env := by rfl) (hpl : (backTo pos (starEach es X.env)).any (·.1) = false := by rfl) :
    PE X (.Call (.Name x p) (e :: es) [] pos) (tCall sp [] E0 t) := by
  obtain ⟨f, fd, ps, F, hm, kp, b⟩ := c.ex
  refine ⟨fun pins s σ H Q I h => ?_⟩
  refine wpAny_Call_Name_kw (ld_glob I hg hm ?_ hdb)
  refine PySem.W.callWith_K (h₀ := X.base) I.ok.mod.kin kp (thn (ha.run pos pins s σ H _ I h) fun us s1 ⟨vs, H1, I1, r, q⟩ => ⟨I1.kIn, ?_⟩) he hpl
  have q : sp vs H1 Q E0 := by
    have q' : sp (vs ++ []) H1 Q E0 := q
    simpa only [List.append_nil] using q'
  have hl : us.length = ps.length := by rw [← r.length]; exact F.len _ _ _ _ q
  have b' := b s1 us I1.kIn (by rw [List.append_nil]; exact hl)
  rw [List.append_nil] at b'
  refine wpAny_call (codeAny_mono (F.run X.A X.stack s1 H1 ⟨us, []⟩ us vs Q E0 (hr.mono hk) I1.env0 b' r q) fun r s' hq => ?_)
  cases r with
  | error e => exact hq.elim
  | ok fl =>
    cases fl with
    | ret u => exact I1.after hq
    | next => exact False.elim hq
    | brk => exact False.elim hq
    | cont => exact False.elim hq
end
theorem hu64M {k : Nat} {A : Around} (r : L2H.RoomH k A) : A.units + 64 < cLine := by have := r.un; omega
theorem hu65M {k : Nat} {A : Around} (r : L2H.RoomH k A) : A.units + 65 < cLine := by have := r.un; omega
/-! ### try -/
def tTryW (K : PySem.W.Frag) (c : Value) (i : Nat) (ts : TS) (tb : WX → TS) : TS := fun D σ H => tb (wValW K c i (fun _ _ => ts) (fun _ _ _ _ => False) D) D σ H
theorem r_tryW {K : PySem.W.Frag} {c : Value} {i : Nat} {ts : TS} {tb : WX → TS} {D : Ends} {σ : L2.St} {H : Hp} (h : tb (wValW K c i (fun _ _ => ts) (fun _ _ _ _ => False) D) D σ H) : tTryW K c i ts tb D σ H := h
theorem w_valW {K : PySem.W.Frag} {c cls : Value} {i : Nat} {ts : TS} {D : Ends} {σ : L2.St} {H : Hp} (hm : PySem.W.exmOne K cls c = some true)
    (h : ∀ a, H a = none → ts { nx := fun σ' H' => D.nx (σ'.set i none) H', rt := D.rt, bk := fun _ _ => False, ct := fun _ _ => False } (σ.set i (some (.ref a))) (upd H a (ExV cls a))) : wValW K c i (fun _ _ => ts) (fun _ _ _ _ => False) D cls none σ H :=
  ⟨rfl, true, hm, fun _ a ha => h a ha, fun z => nomatch z⟩
section
variable {X : Cx} {x n : Str} {c : Value} {i : Nat} {body suite : List Stmt} {b₀ : Stmt} {np pos pos' : Pos} {tb : WX → TS} {ts : TS}
theorem ps_tryW (hs : X.stack = X.env :: X.outer) (hf : X.env.frame = some X.env.locals) (hN : X.N.Nodup) (hi : X.N[i]? = some n) (hln : X.env.kindOf n = some .local) (hc : Names X x c) (hex : X.ex = [])
    (hb : ∀ (W : WX) (pn : List (Addr × Obj)) (xe : Value → Shared → Prop), Takes (X.tr pn xe) W → PassesOwn (model X.prog X.w) X.A X.env xe → PSs (X.tr pn xe) body (tb W))
    (hsu : ∀ (a : Addr) (pn : List (Addr × Obj)), PSs (X.suite a pn) (b₀ :: suite) ts) :
    PS X (.Try body [.ExceptHandler (some (.Name x np)) (some n) (b₀ :: suite) pos'] [] [] pos) (tTryW X.K c i ts tb) :=
  ps_try_valW (tb := tb) (ts := fun _ _ => ts) hs hf hN hi hln hc takes0 hex (fun W pn xe tk po => hb W pn xe tk po) fun a _ pn => hsu a pn
end
end Hm

/-! F8: texts: a sign among signs, times, list of a text, join, count, walks over a text. -/
namespace Hm
open PySem PySem.Spec PyProof.Rows L2
/-- a text of some signs -/
abbrev T1 (c : Nat) : Str := ⟨#[c]⟩
def tS (l : List Nat) : Str := ⟨l.toArray⟩
theorem tS_cps (l : List Nat) : (tS l).cps.toList = l := rfl
theorem tS_len (l : List Nat) : (tS l).length = l.length := by simp [tS, PySem.Str.length]
theorem tS_of (z : Str) : tS z.cps.toList = z := rfl
theorem tS_inj {l m : List Nat} (h : tS l = tS m) : l = m := by
  have := congrArg (fun z : Str => z.cps.toList) h
  exact this
def cInS : R2 := fun x y H Q => ∃ (c : Nat) (z : Str), x = .str ⟨#[c]⟩ ∧ y = .str z ∧ Q (.bl (decide (c ∈ z.cps.toList))) H
def cNotInS : R2 := fun x y H Q => ∃ (c : Nat) (z : Str), x = .str ⟨#[c]⟩ ∧ y = .str z ∧ Q (.bl (!decide (c ∈ z.cps.toList))) H
def bMulS : R2 := fun x y H Q => ∃ (z : Str) (n : Int), x = .str z ∧ y = .int n ∧ MulOk z n ∧ Q (.str (Txt.mul z n)) H
def kListS : List V → Hp → VK → Prop := fun xs H Q => ∃ z : Str, xs = [.str z] ∧ z.length ≤ 100000 ∧ ∀ l, H l = none → Q (.ref l) (upd H l (.lst (z.cps.toList.map fun c => V.str (T1 c))))
def rJoin (K : PySem.W.Frag) : V → List V → Hp → VK → Prop := fun x xs H Q => ∃ a p, ∃ ys : List Str, x = .str a ∧ xs = [.ref p] ∧ (SqL K H p (ys.map V.str) ∨ SqT K H p (ys.map V.str)) ∧
    (ys.map (·.length)).sum + ys.length * a.length ≤ 16777216 ∧ Q (.str (Txt.join a ys)) H
def rCountS : V → List V → Hp → VK → Prop := fun x xs H Q => ∃ a b, x = .str a ∧ xs = [.str b] ∧ Q (.int (Txt.count a b)) H
def kStrI : List V → Hp → VK → Prop := fun xs H Q => ∃ i, xs = [.int i] ∧ i.natAbs.log2 < 1920 ∧ Q (.str (toString i)) H
section
variable {X : Cx}
theorem o_inS : OpR X (compareOp .In) cInS := op_in_sign
theorem o_notinS : OpR X (compareOp .NotIn) cNotInS := op_notIn_sign
theorem o_mulS : OpR X (binaryOp .Mult) bMulS := by
  intro pins s σ H x y v u Q I rx ry h
  obtain ⟨z, n, rfl, rfl, ok, q⟩ := h
  obtain ⟨t, rfl⟩ := rx
  obtain ⟨t', rfl⟩ := ry
  exact PySem.SB.mul ok fun t' k => ⟨.str (Txt.mul z n), H, I.tok _, ⟨_, rfl⟩, q⟩
theorem k_listS (hc : X.calm = true) : CallR X (.type "list") kListS := by
  intro pins s σ H xs us Q I r h
  obtain ⟨z, rfl, few, q⟩ := h
  obtain ⟨u, rfl, rx⟩ := vals1 r
  obtain ⟨t, rfl⟩ := rx
  have hz : z.cps.size ≤ sizeLine := by
    have : z.cps.size = z.length := rfl
    rw [sizeLine_eq]; omega
  refine call_list_str (I.ok.hd hc) z t (fun h' tk acc' c' kp e ⟨sz, at_⟩ => ?_) hz
  have r' : Vals (z.cps.toList.map fun c => V.str (T1 c)) acc'.toList := by
    refine vals_of_at (by rw [List.length_map, Array.length_toList, Array.length_toList, sz]) fun j x u hx hu => ?_
    rw [Array.getElem?_toList] at hu
    obtain ⟨c, w, hc, rfl⟩ := at_ j u hu
    rw [List.getElem?_map, Array.getElem?_toList, hc] at hx
    cases hx
    exact ⟨_, rfl⟩
  exact ⟨.ref s.heap.objs.size, _, I.laid (t' := tk) kp (Nat.le_refl _) (show ObjOk X.prog X.w _ h' _ (.lst (z.cps.toList.map fun c => V.str (T1 c))) from ⟨by rw [List.length_map, Array.length_toList]; exact hz, acc'.toList, c', r', e⟩), rfl, q _ (I.hok.fresh (Nat.le_refl _))⟩
theorem k_strI : CallR X (.type "str") kStrI := call_str_int
end
section
variable {P : Program} {w : World} {K : PySem.W.Frag} {H : Hp} {Q : VK} {a b z : Str} {c : Nat} {n : Int} {l : Addr} {σ : L2.St}
theorem v_inS (k : Q (.bl (decide (c ∈ z.cps.toList))) H) : cInS (.str ⟨#[c]⟩) (.str z) H Q := ⟨c, z, rfl, rfl, k⟩
theorem v_ninS (k : Q (.bl (!decide (c ∈ z.cps.toList))) H) : cNotInS (.str ⟨#[c]⟩) (.str z) H Q := ⟨c, z, rfl, rfl, k⟩
theorem v_ltS (k : Q (.bl (decide (a.cps.toList < b.cps.toList))) H) : cLt K (.str a) (.str b) H Q := .inr (.inl ⟨a, b, rfl, rfl, k⟩)
theorem v_lenStr (h : a.length ≤ 100000) (k : Q (.int a.length) H) : kLen K [.str a] H Q := .inl ⟨_, _, rfl, ⟨by rw [sizeLine_eq]; omega, rfl⟩, k⟩
theorem v_listS (h : z.length ≤ 100000) (k : ∀ l, H l = none → Q (.ref l) (upd H l (.lst (z.cps.toList.map fun c => V.str (T1 c))))) : kListS [.str z] H Q := ⟨z, rfl, h, k⟩
theorem v_joinL {ys : List Str} (h : H l = some (.lst (ys.map V.str))) (n : (ys.map (·.length)).sum + ys.length * a.length ≤ 16777216) (k : Q (.str (Txt.join a ys)) H) : rJoin K (.str a) [.ref l] H Q := ⟨a, l, ys, rfl, rfl, .inl (SqL.of h), n, k⟩
theorem v_countS (k : Q (.int (Txt.count a b)) H) : rCountS (.str a) [.str b] H Q := ⟨a, b, rfl, rfl, k⟩
theorem v_slS {lo hi : Option Int} (h : z.length ≤ 100000) (k : Q (.str (cutS z lo hi)) H) : rSlS (.str z) lo hi H Q := ⟨z, rfl, by rw [sizeLine_eq]; omega, k⟩
theorem r_kbm_s {q : V → List V → Hp → VK → Prop} {tr : TA} (k : tr σ H fun xs H2 => q (.str a) xs H2 Q) : kBM K "str" q tr σ (.str a) H Q := ⟨rfl, k⟩
theorem mulOk_small (hz : z.length ≤ 1000) (h0 : 0 ≤ n) (h1 : n ≤ 1000) : MulOk z n := by
  refine ⟨?_, fun hn _ => ?_, fun hn _ => ?_⟩
  · rw [Bool.or_eq_false_iff]
    exact ⟨decide_eq_false (by omega), decide_eq_false (by omega)⟩
  · have : (1000 : Int) ≤ (2 ^ 63 - 1) / n := by
      refine Int.le_ediv_of_mul_le (by omega) ?_
      omega
    omega
  · unfold PySem.Builtin.Str.tooLong
    rw [decide_eq_false_iff_not]
    have := Nat.mul_le_mul hz (show n.toNat ≤ 1000 by omega)
    have := sizeLine_eq
    omega
theorem v_mulS (m : MulOk z n) (k : Q (.str (Txt.mul z n)) H) : bMulS (.str z) (.int n) H Q := ⟨z, n, rfl, rfl, m, k⟩
/-- a sign of a text -/
theorem v_ixS {i : Int} (h : atI z.cps.toList i = some c) (few : z.length ≤ 100000) (k : Q (.str (T1 c)) H) : bIx P w K (.str z) (.int i) H Q := .inr (.inr (.inl ⟨z, i, c, rfl, rfl, by rw [sizeLine_eq]; omega, h, k⟩))
theorem r_iStr {te : TE} {R : It → Hp → Prop} (k : te σ H fun v H1 => ∃ x, v = .str x ∧ R (Its x) H1) : iStr te σ H R := k
/-- a walk over a text -/
theorem for_str {g : TG} {tb : TS} {D : Ends} (Pv : Nat → L2.St → Hp → Prop) (h0 : Pv 0 σ H)
    (hs : ∀ i c σ H, z.cps.toList[i]? = some c → Pv i σ H → g (.str (T1 c)) σ H fun σ2 H2 => tb { D with nx := Pv (i + 1), ct := Pv (i + 1), bk := D.nx } σ2 H2) (hd : ∀ σ H, Pv z.cps.toList.length σ H → D.nx σ H) : kFor (Its z) g tb D σ H := by
  have sz : z.cps.toList.length = z.cps.size := Array.length_toList
  refine ⟨fun i m σ H => m = z.cps.size - i ∧ i ≤ z.cps.size ∧ Pv i σ H, ⟨_, rfl, Nat.zero_le _, h0⟩, ?_⟩
  rintro i m σ H ⟨rfl, hi, p⟩
  by_cases lt : i < z.cps.size
  · refine .inr ⟨lt, Pv (i + 1), fun σ' H' p' => ⟨z.cps.size - (i + 1), by omega, rfl, lt, p'⟩, fun x H' y => ?_⟩
    obtain ⟨rfl, c, hc, rfl⟩ := y
    exact hs i c σ H' (by rw [Array.getElem?_toList]; exact hc) p
  · have e : i = z.cps.size := by omega
    subst e
    exact .inl ⟨Nat.le_refl _, hd σ H (by rw [sz]; exact p)⟩
end
end Hm

namespace Hm
open PySem L2
/-! F3m: the reading's steps. kaf_suf: one step; kaf_pre: what stands at an address; tlg_ne: two addresses differ. -/
local macro_rules | `(tactic| tlg_ne) => `(tactic| first
  | with_reducible assumption
  | with_reducible exact Ne.symm (by assumption)
  | (refine' ne_old (by assumption) ?a; (case a => (kaf_pre; done)))
  | (refine' ne_new (by assumption) ?a; (case a => (kaf_pre; done)))
  | fail "tlg_ne")
local macro_rules | `(tactic| kaf_pre) => `(tactic| first
  | with_reducible assumption
  | ((with_reducible refine' upd_at ?a); (case a => rfl))
  | ((first
      | (with_reducible refine' get_new (by assumption) ?b)
      | ((with_reducible refine' get_set ?a ?b); (case a => (tlg_ne; done)))
      | ((with_reducible refine' Keep.get (by assumption) ?a ?b); (case a => (first | assumption | (intro z; exact z.elim) | fail "kaf_pre")))
      | fail "kaf_pre"); (case b => (kaf_pre; done)))
  | ((fail_if_success (with_reducible refine' is_upd ?_)); assumption)
  | ((with_reducible refine' get_setK ?a ?b ?e); (case a => (kaf_pre; done)); (case b => (kaf_pre; done)); (case e => (intro z; cases z; done)))
  | fail "kaf_pre")
local macro_rules | `(tactic| isplit) => `(tactic| first
  | assumption
  | ((with_reducible refine' seq_new (by assumption) ?a); (case a => (isplit; done)))
  | ((with_reducible refine' seq_keep (by assumption) ?a); (case a => (isplit; done))))
local macro_rules | `(tactic| kaf_suf) => `(tactic| first
  | with_reducible refine r_seq ?_
  | with_reducible refine r_asg ?_
  | ((with_reducible refine' r_var ?a ?_); (case a => rfl))
  | with_reducible refine r_c ?_
  | with_reducible refine r_gname ?_
  | with_reducible refine r_op ?_
  | with_reducible refine r_cons ?_
  | with_reducible refine r_nil ?_
  | with_reducible refine r_cb ?_
  | with_reducible refine r_call ?_
  | with_reducible refine r_meth ?_
  | with_reducible refine r_fld ?_
  | with_reducible refine r_if ?_
  | with_reducible refine r_test ?_
  | with_reducible refine r_kB ?_
  | with_reducible refine r_ite_tt ?_
  | with_reducible refine r_ite_ff ?_
  | with_reducible refine r_ite_nt ?_
  | with_reducible refine r_ite_nf ?_
  | ((with_reducible refine' r_iteT' ?a ?_); (case a => first | assumption | rfl | omega))
  | ((with_reducible refine' r_iteF' ?a ?_); (case a => first | assumption | omega))
  | ((with_reducible refine' r_iteNT' ?a ?_); (case a => first | assumption | omega))
  | ((with_reducible refine' r_iteNF' ?a ?_); (case a => first | assumption | rfl | omega))
  | with_reducible refine r_next ?_
  | with_reducible refine r_nx ?_
  | with_reducible refine r_rt ?_
  | with_reducible refine r_bk ?_
  | with_reducible refine r_ct ?_
  | with_reducible refine r_drop ?_
  | with_reducible refine r_ret ?_
  | with_reducible refine v_add ?_
  | with_reducible refine v_sub ?_
  | with_reducible refine v_eq ?_
  | with_reducible refine v_ne ?_
  | with_reducible refine v_lt ?_
  | with_reducible refine v_le ?_
  | with_reducible refine v_gt ?_
  | with_reducible refine v_ge ?_
  | ((with_reducible refine' v_mod ?a ?_); (case a => first | assumption | decide | omega))
  | ((with_reducible refine' v_mul ?a ?_); (case a => first | assumption | decide | omega))
  | ((with_reducible refine' v_div ?a ?_); (case a => first | assumption | decide | omega))
  | ((with_reducible refine' v_pow ?a ?_); (case a => exact ⟨by decide, by decide, by decide⟩))
  | ((with_reducible refine' v_ixL ?a ?b ?_); (case a => (kaf_pre; done)); (case b => (first | assumption | rfl)))
  | ((with_reducible refine' v_ixT ?a ?b ?_); (case a => (kaf_pre; done)); (case b => (first | assumption | rfl)))
  | ((with_reducible refine' v_lenL ?a ?_); (case a => (kaf_pre; done)))
  | ((with_reducible refine' v_lenT ?a ?_); (case a => (kaf_pre; done)))
  | ((with_reducible refine' v_lenK ?a ?_); (case a => (isplit; done)))
  | ((with_reducible refine' v_ixK ?a ?b ?_); (case a => (isplit; done)); (case b => (first | assumption | rfl)))
  | ((with_reducible refine' v_append ?a ?b ?_); (case a => (kaf_pre; done)); (case b => first | assumption | exact few1 (by simp; omega)))
  | ((with_reducible refine' r_krng1 ?a ?_); (case a => first | assumption | decide | omega))
  | with_reducible refine v_int ?_
  | with_reducible refine v_intB ?_
  | with_reducible refine v_max ?_
  | with_reducible refine v_min ?_
  | with_reducible refine r_and ?_
  | with_reducible refine r_or ?_
  | with_reducible refine r_not ?_
  | with_reducible refine r_tup ?_
  | with_reducible refine r_lst ?_
  | ((with_reducible refine' r_ktup ?a ?_); (case a => (simp; done)))
  | ((with_reducible refine' r_klst ?a ?_); (case a => (simp; done)))
  | with_reducible refine r_bm ?_
  | with_reducible refine r_bm0 ?_
  | ((with_reducible refine' r_kbm_l ?a ?_); (case a => (kaf_pre; done)))
  | with_reducible refine r_gsub ?_
  | ((with_reducible refine' v_setL ?a ?b ?_); (case a => (kaf_pre; done)); (case b => first | assumption | rfl))
  | with_reducible refine r_sfld ?_
  | with_reducible refine r_make ?_
  | with_reducible refine r_for ?_
  | with_reducible refine r_rng1 ?_
  | with_reducible refine r_iany ?_
  | ((with_reducible refine' r_kiterL ?a ?_); (case a => (kaf_pre; done)))
  | ((with_reducible refine' r_kiterT ?a ?_); (case a => (kaf_pre; done)))
  | with_reducible refine r_lc ?_
  | with_reducible refine r_yes ?_
  | with_reducible refine r_chain ?_
  | with_reducible refine r_andV ?_
  | with_reducible refine r_orV ?_
  | with_reducible refine r_notV ?_
  | with_reducible refine r_tru ?_
  | with_reducible refine r_tru_bl ?_
  | with_reducible refine r_un ?_
  | with_reducible refine r_rU ?_
  | with_reducible refine r_sl ?_
  | with_reducible refine r_nopart ?_
  | with_reducible refine r_part ?_
  | with_reducible refine r_kI ?_
  | with_reducible refine r_rev ?_
  | with_reducible refine r_lstRg1 ?_
  | with_reducible refine r_krg ?_
  | with_reducible refine v_isN ?_
  | with_reducible refine v_notN ?_
  | with_reducible refine v_isB ?_
  | with_reducible refine v_notB ?_
  | with_reducible refine v_eqS ?_
  | with_reducible refine v_neS ?_
  | ((with_reducible refine' v_isiI ?a ?_); (case a => first | with_reducible exact kit_int_int | with_reducible exact kit_int_bool | with_reducible exact kit_int_list | with_reducible exact kit_int_tuple | with_reducible exact kit_int_str))
  | ((with_reducible refine' v_isiB ?a ?_); (case a => first | with_reducible exact kit_bool_int | with_reducible exact kit_bool_bool | with_reducible exact kit_bool_list | with_reducible exact kit_bool_tuple | with_reducible exact kit_bool_str))
  | ((with_reducible refine' v_isiS ?a ?_); (case a => first | with_reducible exact kit_str_int | with_reducible exact kit_str_bool | with_reducible exact kit_str_list | with_reducible exact kit_str_tuple | with_reducible exact kit_str_str))
  | ((with_reducible refine' v_isiL ?a ?b ?_); (case a => (kaf_pre; done)); (case b => first | with_reducible exact kit_list_int | with_reducible exact kit_list_bool | with_reducible exact kit_list_list | with_reducible exact kit_list_tuple | with_reducible exact kit_list_str))
  | ((with_reducible refine' v_isiT ?a ?b ?_); (case a => (kaf_pre; done)); (case b => first | with_reducible exact kit_tuple_int | with_reducible exact kit_tuple_bool | with_reducible exact kit_tuple_list | with_reducible exact kit_tuple_tuple | with_reducible exact kit_tuple_str))
  | with_reducible refine r_brk ?_
  | with_reducible refine r_cont ?_
  | with_reducible refine r_par ?_
  | with_reducible refine r_par2 ?_
  | with_reducible refine v_abs ?_
  | ((with_reducible refine' v_listL ?a ?_); (case a => (kaf_pre; done)))
  | ((with_reducible refine' v_listT ?a ?_); (case a => (kaf_pre; done)))
  | ((with_reducible refine' v_set ?a ?b ?_); (case a => (kaf_pre; done)); (case b => first | assumption | omega | (simp; omega)))
  | ((with_reducible refine' v_sortedS ?a ?_); (case a => (kaf_pre; done)))
  | ((with_reducible refine' v_sortedL ?a ?_); (case a => (kaf_pre; done)))
  | ((with_reducible refine' v_tupleL ?a ?_); (case a => (kaf_pre; done)))
  | ((with_reducible refine' v_addL ?a ?b ?e ?_); (case a => (kaf_pre; done)); (case b => (kaf_pre; done)); (case e => first | assumption | exact few2 (by simp; omega)))
  | ((with_reducible refine' v_addT ?a ?b ?e ?_); (case a => (kaf_pre; done)); (case b => (kaf_pre; done)); (case e => first | assumption | exact few2 (by simp; omega))))

local macro_rules | `(tactic| kaf_suf) => `(tactic| first
  | with_reducible refine r_raiseC ?_
  | with_reducible refine r_raiseE ?_
  | with_reducible refine r_tryV ?_
  | with_reducible refine r_methS ?_
  | with_reducible refine r_callW ?_
  | with_reducible refine v_isiN kit_NoneType_int ?_)

local macro_rules | `(tactic| kaf_suf) => `(tactic| first
  | with_reducible refine r_tryW ?_)

def top (i : Nat) : Stmt := PySem.Challenge.pw_hotmoves_k82_texts_that_write_none.main.body.getD i (.Pass ⟨0, 0, 0, 0⟩)
abbrev s_wall : Stmt := top 0
abbrev s_side_read : Stmt := top 7
abbrev s_game_read : Stmt := top 8
abbrev s_put_tree : Stmt := top 9
abbrev s_read : Stmt := top 10
abbrev s_Book_init : Stmt := inClass (top 12) 0
abbrev s_Book_need : Stmt := inClass (top 12) 1
abbrev s_Book_game : Stmt := inClass (top 12) 2
abbrev s_Book_lefts : Stmt := inClass (top 12) 3
abbrev s_Book_rights : Stmt := inClass (top 12) 4
abbrev s_Book_depth : Stmt := inClass (top 12) 5
abbrev s_Book_many : Stmt := inClass (top 12) 6
abbrev s_law_cell : Stmt := top 14
abbrev s_law_store : Stmt := top 15
abbrev s_law_take : Stmt := top 16
abbrev s_law_games : Stmt := top 17
abbrev s_law_put : Stmt := top 18
abbrev s_law_more : Stmt := top 19
abbrev s_law_unlike : Stmt := top 20
abbrev s_law_listed : Stmt := top 21
abbrev s_law_texts : Stmt := top 22
abbrev s_law_walked : Stmt := top 23
abbrev s_law_end : Stmt := top 24
abbrev s_law_odd : Stmt := top 25
abbrev s_law_sign : Stmt := top 26
abbrev s_law_spoilt : Stmt := top 27
abbrev s_law_turned : Stmt := top 28
abbrev s_law_within : Stmt := top 29
abbrev s_law_drawn : Stmt := top 30
abbrev s_law_refused : Stmt := top 31
abbrev s_law : Stmt := top 32
structure Cn where
  P : Program
  w : World
  K : PySem.W.Frag
  cGameError : Addr
  cNoGame : Addr
  cNoText : Addr
  cBook : Addr
structure Txt (c : Cn) (mg : Str → Option Value) : Prop where
  n_ValueError : mg "ValueError" = none
  n_bool : mg "bool" = none
  n_int : mg "int" = none
  n_isinstance : mg "isinstance" = none
  n_len : mg "len" = none
  n_list : mg "list" = none
  n_max : mg "max" = none
  n_min : mg "min" = none
  n_range : mg "range" = none
  n_set : mg "set" = none
  n_sorted : mg "sorted" = none
  n_str : mg "str" = none
  n_tuple : mg "tuple" = none
  g_GameError : mg "GameError" = some (.ref c.cGameError)
  g_NoGame : mg "NoGame" = some (.ref c.cNoGame)
  g_NoText : mg "NoText" = some (.ref c.cNoText)
  g_Book : mg "Book" = some (.ref c.cBook)
  g_DEEPEST : ∃ t, mg "DEEPEST" = some (.int 12 t)
  x_GameError : XCl c.K mg "GameError" c.cGameError
  m_GameError : PySem.W.exmOne c.K (.ref c.cGameError) (.ref c.cGameError) = some true
  x_NoGame : XCl c.K mg "NoGame" c.cNoGame
  m_NoGame : PySem.W.exmOne c.K (.ref c.cNoGame) (.ref c.cGameError) = some true
  x_NoText : XCl c.K mg "NoText" c.cNoText
  m_NoText : PySem.W.exmOne c.K (.ref c.cNoText) (.ref c.cGameError) = some true
  e_GameError : ExcC c.K c.cGameError
  iv_GameError : PySem.W.kitOne c.K (.ref c.cGameError) (.type "ValueError") = some true
  i_GameError_GameError : PySem.W.kitOne c.K (.ref c.cGameError) (.ref c.cGameError) = some true
  i_GameError_NoGame : PySem.W.kitOne c.K (.ref c.cGameError) (.ref c.cNoGame) = some false
  i_GameError_NoText : PySem.W.kitOne c.K (.ref c.cGameError) (.ref c.cNoText) = some false
  e_NoGame : ExcC c.K c.cNoGame
  iv_NoGame : PySem.W.kitOne c.K (.ref c.cNoGame) (.type "ValueError") = some true
  i_NoGame_GameError : PySem.W.kitOne c.K (.ref c.cNoGame) (.ref c.cGameError) = some true
  i_NoGame_NoGame : PySem.W.kitOne c.K (.ref c.cNoGame) (.ref c.cNoGame) = some true
  i_NoGame_NoText : PySem.W.kitOne c.K (.ref c.cNoGame) (.ref c.cNoText) = some false
  e_NoText : ExcC c.K c.cNoText
  mm_NoText : PySem.W.exmOne c.K (.ref c.cNoText) (.ref c.cNoText) = some true
  iv_NoText : PySem.W.kitOne c.K (.ref c.cNoText) (.type "ValueError") = some true
  i_NoText_GameError : PySem.W.kitOne c.K (.ref c.cNoText) (.ref c.cGameError) = some true
  i_NoText_NoGame : PySem.W.kitOne c.K (.ref c.cNoText) (.ref c.cNoGame) = some false
  i_NoText_NoText : PySem.W.kitOne c.K (.ref c.cNoText) (.ref c.cNoText) = some true
  cl_Book : Cls c.K c.cBook
  na_Book_depths : NoAttr c.K c.cBook "depths"
  na_Book_moves : NoAttr c.K c.cBook "moves"
  na_Book_numbers : NoAttr c.K c.cBook "numbers"
  F_side_read : ∃ (f : Addr) (fd : FuncData), Fun c.K "side_read" "side_read" s_side_read f fd ∧ mg "side_read" = some (.ref f) ∧ Binds c.K fd ["text", "at", "end", "room"] []
  F_game_read : ∃ (f : Addr) (fd : FuncData), Fun c.K "game_read" "game_read" s_game_read f fd ∧ mg "game_read" = some (.ref f) ∧ Binds c.K fd ["text", "at", "room"] []
  F_put_tree : ∃ (f : Addr) (fd : FuncData), Fun c.K "put_tree" "put_tree" s_put_tree f fd ∧ mg "put_tree" = some (.ref f) ∧ Binds c.K fd ["book", "tree"] []
  F_read : ∃ (f : Addr) (fd : FuncData), Fun c.K "read" "read" s_read f fd ∧ mg "read" = some (.ref f) ∧ Binds c.K fd ["book", "text"] []
  F_Book_init : ∃ (f : Addr) (fd : FuncData), Fun c.K "__init__" "Book.__init__" s_Book_init f fd ∧ Mk c.K c.cBook f ∧ Binds c.K fd ["self"] []
  F_Book_need : ∃ (f : Addr) (fd : FuncData), Fun c.K "need" "Book.need" s_Book_need f fd ∧ Meth c.K c.cBook "need" f ∧ Binds c.K fd ["self", "g"] []
  F_Book_game : ∃ (f : Addr) (fd : FuncData), Fun c.K "game" "Book.game" s_Book_game f fd ∧ Meth c.K c.cBook "game" f ∧ Binds c.K fd ["self", "lefts", "rights"] []
  F_Book_lefts : ∃ (f : Addr) (fd : FuncData), Fun c.K "lefts" "Book.lefts" s_Book_lefts f fd ∧ Meth c.K c.cBook "lefts" f ∧ Binds c.K fd ["self", "g"] []
  F_Book_rights : ∃ (f : Addr) (fd : FuncData), Fun c.K "rights" "Book.rights" s_Book_rights f fd ∧ Meth c.K c.cBook "rights" f ∧ Binds c.K fd ["self", "g"] []
  F_Book_many : ∃ (f : Addr) (fd : FuncData), Fun c.K "many" "Book.many" s_Book_many f fd ∧ Meth c.K c.cBook "many" f ∧ Binds c.K fd ["self"] []
  F_law_cell : ∃ (f : Addr) (fd : FuncData), Fun c.K "_law_cell" "_law_cell" s_law_cell f fd ∧ mg "_law_cell" = some (.ref f) ∧ Binds c.K fd ["script", "k"] []
  F_law_store : ∃ (f : Addr) (fd : FuncData), Fun c.K "_law_store" "_law_store" s_law_store f fd ∧ mg "_law_store" = some (.ref f) ∧ Binds c.K fd ["cell"] []
  F_law_take : ∃ (f : Addr) (fd : FuncData), Fun c.K "_law_take" "_law_take" s_law_take f fd ∧ mg "_law_take" = some (.ref f) ∧ Binds c.K fd ["store", "many"] []
  F_law_games : ∃ (f : Addr) (fd : FuncData), Fun c.K "_law_games" "_law_games" s_law_games f fd ∧ mg "_law_games" = some (.ref f) ∧ Binds c.K fd ["script", "begin", "most", "deepest"] []
  F_law_more : ∃ (f : Addr) (fd : FuncData), Fun c.K "_law_more" "_law_more" s_law_more f fd ∧ mg "_law_more" = some (.ref f) ∧ Binds c.K fd ["store", "table", "rows"] []
  F_law_unlike : ∃ (f : Addr) (fd : FuncData), Fun c.K "_law_unlike" "_law_unlike" s_law_unlike f fd ∧ mg "_law_unlike" = some (.ref f) ∧ Binds c.K fd ["texts"] []
  F_law_listed : ∃ (f : Addr) (fd : FuncData), Fun c.K "_law_listed" "_law_listed" s_law_listed f fd ∧ mg "_law_listed" = some (.ref f) ∧ Binds c.K fd ["texts"] []
  F_law_texts : ∃ (f : Addr) (fd : FuncData), Fun c.K "_law_texts" "_law_texts" s_law_texts f fd ∧ mg "_law_texts" = some (.ref f) ∧ Binds c.K fd ["table"] []
  F_law_walked : ∃ (f : Addr) (fd : FuncData), Fun c.K "_law_walked" "_law_walked" s_law_walked f fd ∧ mg "_law_walked" = some (.ref f) ∧ Binds c.K fd ["book", "g"] []
  F_law_end : ∃ (f : Addr) (fd : FuncData), Fun c.K "_law_end" "_law_end" s_law_end f fd ∧ mg "_law_end" = some (.ref f) ∧ Binds c.K fd ["text", "at", "room"] []
  F_law_odd : ∃ (f : Addr) (fd : FuncData), Fun c.K "_law_odd" "_law_odd" s_law_odd f fd ∧ mg "_law_odd" = some (.ref f) ∧ Binds c.K fd ["at"] []
  F_law_sign : ∃ (f : Addr) (fd : FuncData), Fun c.K "_law_sign" "_law_sign" s_law_sign f fd ∧ mg "_law_sign" = some (.ref f) ∧ Binds c.K fd ["store"] []
  F_law_spoilt : ∃ (f : Addr) (fd : FuncData), Fun c.K "_law_spoilt" "_law_spoilt" s_law_spoilt f fd ∧ mg "_law_spoilt" = some (.ref f) ∧ Binds c.K fd ["store", "text"] []
  F_law_turned : ∃ (f : Addr) (fd : FuncData), Fun c.K "_law_turned" "_law_turned" s_law_turned f fd ∧ mg "_law_turned" = some (.ref f) ∧ Binds c.K fd ["store", "table", "texts"] []
  F_law_within : ∃ (f : Addr) (fd : FuncData), Fun c.K "_law_within" "_law_within" s_law_within f fd ∧ mg "_law_within" = some (.ref f) ∧ Binds c.K fd ["store", "text", "many"] []
  F_law_drawn : ∃ (f : Addr) (fd : FuncData), Fun c.K "_law_drawn" "_law_drawn" s_law_drawn f fd ∧ mg "_law_drawn" = some (.ref f) ∧ Binds c.K fd ["store", "table", "texts"] []
  F_law_refused : ∃ (f : Addr) (fd : FuncData), Fun c.K "_law_refused" "_law_refused" s_law_refused f fd ∧ mg "_law_refused" = some (.ref f) ∧ Binds c.K fd ["book", "thing"] []
abbrev Fr := Int × Int
/-! fractions as they stand, how wide they are -/
def Wd (n : Nat) (x : Int) : Prop := x.natAbs < 2 ^ n
theorem Wd.mono {m n : Nat} {x : Int} (h : Wd m x) (k : m ≤ n) : Wd n x := Nat.lt_of_lt_of_le h (Nat.pow_le_pow_right (by decide) k)
theorem Wd.mul {m n : Nat} {x y : Int} (h : Wd m x) (k : Wd n y) : Wd (m + n) (x * y) := by
  unfold Wd at *
  rw [Int.natAbs_mul, Nat.pow_add]
  exact Nat.mul_lt_mul'' h k
theorem Wd.add {m : Nat} {x y : Int} (h : Wd m x) (k : Wd m y) : Wd (m + 1) (x + y) := by
  unfold Wd at *
  have := Int.natAbs_add_le x y
  rw [Nat.pow_succ]; omega
theorem Wd.neg {m : Nat} {x : Int} (h : Wd m x) : Wd m (-x) := by unfold Wd at *; rw [Int.natAbs_neg]; exact h
theorem Wd.sub {m : Nat} {x y : Int} (h : Wd m x) (k : Wd m y) : Wd (m + 1) (x - y) := h.add k.neg
theorem Wd.one {n : Nat} (h : 0 < n) : Wd n 1 := by
  have : 2 ^ 1 ≤ 2 ^ n := Nat.pow_le_pow_right (by decide) h
  unfold Wd
  show 1 < 2 ^ n
  omega
theorem Wd.zero {n : Nat} : Wd n 0 := Nat.pow_pos (by decide)
theorem Wd.div {m : Nat} {x d : Int} (h : Wd m x) (d0 : 0 < d) : Wd (m + 1) (x / d) := by
  have e := Int.mul_ediv_add_emod x d
  have r0 := Int.emod_nonneg x (show d ≠ 0 by omega)
  have r1 := Int.emod_lt_of_pos x d0
  have : (x / d).natAbs ≤ x.natAbs + 1 := by
    rcases Int.le_total 0 (x / d) with q | q
    · have : x / d ≤ d * (x / d) := by
        have := Int.mul_le_mul_of_nonneg_right (show 1 ≤ d by omega) q
        omega
      omega
    · by_cases z : x / d = 0
      · rw [z]; omega
      · have s : d * (x / d + 1) ≤ 1 * (x / d + 1) := Int.mul_le_mul_of_nonpos_right (show 1 ≤ d by omega) (by omega)
        rw [Int.mul_add, Int.mul_one] at s
        omega
  unfold Wd at *
  rw [Nat.pow_succ]
  have := Nat.pow_pos (n := m) (show 0 < 2 by decide)
  omega
theorem Wd.cmul {a b : Nat} {x y : Int} (h : Wd a x) (k : Wd b y) (n : a + b ≤ 900000) : CMulW x y := wide_mul (h.mono (Nat.le_succ a)) (k.mono (Nat.le_succ b)) (by omega) (by omega) (by omega)
theorem Wd.cdiv {b : Nat} {x y : Int} (d0 : 0 < y) (k : Wd b y) (n : b ≤ 8000) : CDivW x y := wide_div d0 (k.mono (Nat.le_succ b)) (by omega) (by omega)
def WdF (n : Nat) (q : Fr) : Prop := Wd n q.1 ∧ Wd n q.2
theorem non_ref (u : Addr) : ¬ (V.ref u = V.non) := fun z => by cases z
/-- the fraction q at v -/
def FrV (H : Hp) (v : V) (q : Fr) : Prop := ∃ t, v = .ref t ∧ H t = some (.tup [.int q.1, .int q.2])
def FrO (H : Hp) (v : V) : Option Fr → Prop
  | none => v = .non
  | some q => FrV H v q
theorem FrV.keep {H H' : Hp} {v : V} {q : Fr} (h : FrV H v q) (k : Keep Nil H H') : FrV H' v q := by
  obtain ⟨t, rfl, e⟩ := h
  exact ⟨t, rfl, k.get (fun z => z) e⟩
theorem FrO.keep {H H' : Hp} {v : V} {o : Option Fr} (h : FrO H v o) (k : Keep Nil H H') : FrO H' v o := by
  cases o with
  | none => exact h
  | some q => exact FrV.keep h k
theorem Wd.le {n : Nat} {x y : Int} (h : Wd n y) (a : 0 ≤ x) (b : x ≤ y) : Wd n x := by unfold Wd at *; omega
theorem Wd.nat {n : Nat} {x y : Int} (h : Wd n y) (k : x.natAbs ≤ y.natAbs) : Wd n x := Nat.lt_of_le_of_lt k h
theorem w10 (x : Int) (h : x.natAbs < 2 ^ 10) {n : Nat} (k : 10 ≤ n) : Wd n x := Wd.mono (m := 10) h k
theorem FrV.keepM {M : Addr → Prop} {H H' : Hp} {v : V} {q : Fr} (h : FrV H v q) (k : Keep M H H') (n : ∀ t, H t = some (.tup [.int q.1, .int q.2]) → ¬ M t) : FrV H' v q := by
  obtain ⟨t, rfl, e⟩ := h
  exact ⟨t, rfl, k.get (n t e) e⟩

/-! the law's store of draws -/
theorem atI_get {xs : List V} {i : Int} {v : V} {n : Nat} (h : xs[n]? = some v) (e : i = n) : atI xs i = some v := by
  subst e
  have hn : n < xs.length := (List.getElem?_eq_some_iff.mp h).1
  unfold atI ixN
  rw [if_pos (Int.natCast_nonneg n), if_pos (by omega)]
  simpa using h
abbrev N_law_cell : List Str := ["script", "k"]
theorem sc_law_cell : FnScope N_law_cell ["script", "k"] (defScope s_law_cell) := ⟨rfl, rfl, rfl, by decide +kernel, rfl, by decide +kernel, by decide +kernel⟩
def t_law_cell (c : Cn) : TS :=
  (tSeq (tIfS (tTest (tOp (cLt c.K) (tVar 1) (tCB (kLen c.K) (tCons (tVar 0) tNil))))
  (tRet (tOp (bIx c.P c.w c.K) (tVar 0) (tVar 1)))
  tNext)
  (tRet (tOp (bAdd c.K) (tOp (bAdd c.K) (tOp bMul (tOp bMul (tC (.int 7)) (tVar 1)) (tVar 1)) (tOp bMul (tC (.int 3)) (tVar 1))) (tC (.int 11)))))
def sp_law_cell (c : Cn) : Sp := fun vs H Q E => vs.length = 2 ∧ ∃ (a : Addr) (ns : List Int) (k : Nat), vs = [.ref a, .int k] ∧ SqL c.K H a (ns.map V.int) ∧ ns.length ≤ 63 ∧ k ≤ 100 ∧ ∀ z : Int, Q (.int z) H
theorem p_law_cell {c : Cn} {mg : Str → Option Value} (T : Txt c mg) {vs : List V} {H : Hp} {Q : VK} {E : XK} (h : sp_law_cell c vs H Q E) : t_law_cell c { nx := fun _ H' => Q .non H', rt := Q } (start N_law_cell vs) H := by
  obtain ⟨_, a, ns, i, rfl, hs, few, i9, k⟩ := h
  unfold t_law_cell
  repeat kaf_suf
  refine r_ite (fun p => ?_) (fun p => ?_)
  · rw [List.length_map] at p
    obtain ⟨z, hz⟩ : ∃ z, ns[i]? = some z := ⟨_, List.getElem?_eq_getElem (by omega)⟩
    have hx : atI (ns.map V.int) (i : Int) = some (.int z) := atI_get (n := i) (by rw [List.getElem?_map, hz]; rfl) rfl
    repeat kaf_suf
    exact k _
  · repeat kaf_suf
    exact k _
theorem cal_law_cell {c : Cn} {mg : Str → Option Value} {base : Heap} (T : Txt c mg) : Cal c.P c.w c.K mg base CX0 1 "_law_cell" (sp_law_cell c) := by
  obtain ⟨f, fd, F, g, b⟩ := T.F_law_cell
  exact ⟨f, fd, ["script", "k"], F.ok (k := 0) (N := N_law_cell) sc_law_cell (fun vs H Q E h => h.1) (fun cdv A outer s H vs Q E hr h => ⟨t_law_cell c, by
  exact (pss_cons (ps_if (pt_cmpR (o_lt (hu64 hr)) (pv 1) (pe_callB k_len (by rfl) T.n_len (by decide +kernel) (pa_cons (pv 0) pa_nil)) (nomark _)) (pss_one (ps_ret (pe_ix (x_ix (hu64 hr)) (pv 0) (pv 1) (fun _ _ => rfl)))) pss_nil)
  (pss_one (ps_ret (pe_op o_add (pe_op o_add (pe_op o_mul (pe_op o_mul pe_int (pv 1)) (pv 1)) (pe_op o_mul pe_int (pv 1))) pe_int)))), p_law_cell T h⟩), g, F.kp, b⟩
/-- the store at a -/
def StA (H : Hp) (a : Addr) : Prop := ∃ g z n : Int, H a = some (.lst [.int g, .int z, .int n]) ∧ 0 ≤ z ∧ z < 2147483629
abbrev N_law_store : List Str := ["cell", "great"]
theorem sc_law_store : FnScope N_law_store ["cell"] (defScope s_law_store) := ⟨rfl, rfl, rfl, by decide +kernel, rfl, by decide +kernel, by decide +kernel⟩
def t_law_store (c : Cn) : TS :=
  (tSeq (tAsg (tC (.int 0)) (gName 1))
  (C8.tCut (tIfS (tTest (tOp cGe (tVar 0) (tOp bPow (tC (.int 10)) (tC (.int 18)))))
  (tAsg (tVar 0) (gName 1))
  tNext)
  (tRet (tLst (tCons (tVar 1) (tCons (tOp bMod (tVar 0) (tC (.int 2147483629))) (tCons (tC (.int 1)) tNil)))))))
def sp_law_store (c : Cn) : Sp := fun vs H Q E => vs.length = 1 ∧ ∃ (z : Int), vs = [.int z] ∧ ∀ (p : Addr) (H' : Hp), H p = none → Keep Nil H H' → StA H' p → Q (.ref p) H'
theorem p_law_store {c : Cn} {mg : Str → Option Value} (T : Txt c mg) {vs : List V} {H : Hp} {Q : VK} {E : XK} (h : sp_law_store c vs H Q E) : t_law_store c { nx := fun _ H' => Q .non H', rt := Q } (start N_law_store vs) H := by
  obtain ⟨_, z, rfl, k⟩ := h
  unfold t_law_store
  repeat kaf_suf
  refine ⟨fun σ H' => ∃ g : Int, σ = [some (.int z), some (.int g)] ∧ H' = H, ?_, ?_⟩
  · repeat kaf_suf
    refine r_ite (fun p => ?_) (fun p => ?_)
    · repeat kaf_suf
      exact ⟨_, rfl, rfl⟩
    · repeat kaf_suf
      exact ⟨_, rfl, rfl⟩
  rintro σ H' ⟨g, rfl, rfl⟩
  repeat kaf_suf
  intro p hp
  exact k p _ hp (Keep.alloc hp) ⟨g, z % 2147483629, 1, upd_same, by omega, by omega⟩
theorem cal_law_store {c : Cn} {mg : Str → Option Value} {base : Heap} (T : Txt c mg) : Cal c.P c.w c.K mg base CX0 1 "_law_store" (sp_law_store c) := by
  obtain ⟨f, fd, F, g, b⟩ := T.F_law_store
  exact ⟨f, fd, ["cell"], F.ok (k := 0) (N := N_law_store) sc_law_store (fun vs H Q E h => h.1) (fun cdv A outer s H vs Q E hr h => ⟨t_law_store c, by
  exact (pss_cons (ps_set (i := 1) sc_law_store.nd rfl (Or.inl rfl) pe_int)
  (C8.pss_cut (ps_if (pt_cmpR o_ge (pv 0) (pe_op o_pow pe_int pe_int) (nomark _)) (pss_one (ps_set (i := 1) sc_law_store.nd rfl (Or.inl rfl) (pv 0))) pss_nil)
  (pss_one (ps_ret (pe_lst (pa_cons (pv 1) (pa_cons (pe_op o_mod (pv 0) pe_int) (pa_cons pe_int pa_nil)))))))), p_law_store T h⟩), g, F.kp, b⟩
abbrev N_law_take : List Str := ["store", "many", "told", "one"]
theorem sc_law_take : FnScope N_law_take ["store", "many"] (defScope s_law_take) := ⟨rfl, rfl, rfl, by decide +kernel, rfl, by decide +kernel, by decide +kernel⟩
def t_law_take (c : Cn) : TS :=
  (tSeq (tIfS (tTest (tOp cGt (tOp (bIx c.P c.w c.K) (tVar 0) (tC (.int 0))) (tC (.int 0))))
  (tSeq (tAsg (tOp bMod (tOp (bIx c.P c.w c.K) (tVar 0) (tC (.int 0))) (tVar 1)) (gName 2))
  (tSeq (tAsg (tOp bDiv (tOp (bIx c.P c.w c.K) (tVar 0) (tC (.int 0))) (tVar 1)) (gSub (tVar 0) (tC (.int 0)) (bSet c.P c.w)))
  (tRet (tVar 2))))
  tNext)
  (tSeq (tAsg (tOp (bAdd c.K) (tOp (bIx c.P c.w c.K) (tVar 0) (tC (.int 2))) (tC (.int 1))) (gSub (tVar 0) (tC (.int 2)) (bSet c.P c.w)))
  (tSeq (tAsg (tOp bMod (tOp bMul (tOp (bAdd c.K) (tOp (bIx c.P c.w c.K) (tVar 0) (tC (.int 1))) (tOp bMul (tC (.int 7919)) (tOp (bIx c.P c.w c.K) (tVar 0) (tC (.int 2))))) (tC (.int 48271))) (tC (.int 2147483647))) (gName 3))
  (tSeq (tAsg (tOp bMod (tOp bMul (tVar 3) (tVar 3)) (tC (.int 2147483629))) (gName 3))
  (tSeq (tAsg (tOp bMod (tOp bMul (tOp (bAdd c.K) (tVar 3) (tOp bMul (tC (.int 40692)) (tOp (bIx c.P c.w c.K) (tVar 0) (tC (.int 2))))) (tC (.int 69621))) (tC (.int 2147483587))) (gName 3))
  (tRet (tOp bMod (tOp bDiv (tVar 3) (tC (.int 8))) (tVar 1))))))))
def sp_law_take (c : Cn) : Sp := fun vs H Q E => vs.length = 2 ∧ ∃ (a : Addr) (m : Int), vs = [.ref a, .int m] ∧ StA H a ∧ 0 < m ∧ Wd 1000 m ∧ ∀ (H' : Hp) (x : Int), Keep (fun y => y = a) H H' → StA H' a → 0 ≤ x → x < m → Q (.int x) H'
theorem p_law_take {c : Cn} {mg : Str → Option Value} (T : Txt c mg) {vs : List V} {H : Hp} {Q : VK} {E : XK} (h : sp_law_take c vs H Q E) : t_law_take c { nx := fun _ H' => Q .non H', rt := Q } (start N_law_take vs) H := by
  obtain ⟨_, a, m, rfl, ⟨g, z, n, e, z0, z1⟩, m0, wm, k⟩ := h
  unfold t_law_take
  repeat kaf_suf
  refine r_ite (fun p => ?_) (fun p => ?_)
  · repeat kaf_suf
    refine v_divW (Wd.cdiv m0 wm (by decide)) ?_
    repeat kaf_suf
    exact k _ _ (Keep.refl.set rfl) ⟨_, _, _, upd_same, z0, z1⟩ (Int.emod_nonneg _ (by omega)) (Int.emod_lt_of_pos _ m0)
  · repeat kaf_suf
    refine v_mulR (by omega) ?_
    repeat kaf_suf
    refine v_mulR (by omega) ?_
    repeat kaf_suf
    exact k _ _ (Keep.refl.set rfl) ⟨_, _, _, upd_same, z0, z1⟩ (Int.emod_nonneg _ (by omega)) (Int.emod_lt_of_pos _ m0)
theorem cal_law_take {c : Cn} {mg : Str → Option Value} {base : Heap} (T : Txt c mg) : Cal c.P c.w c.K mg base CX0 1 "_law_take" (sp_law_take c) := by
  obtain ⟨f, fd, F, g, b⟩ := T.F_law_take
  exact ⟨f, fd, ["store", "many"], F.ok (k := 0) (N := N_law_take) sc_law_take (fun vs H Q E h => h.1) (fun cdv A outer s H vs Q E hr h => ⟨t_law_take c, by
  exact (pss_cons (ps_if (pt_cmpR o_gt (pe_ix (x_ix (hu64 hr)) (pv 0) pe_int (fun _ _ => rfl)) pe_int (nomark _)) (pss_cons (ps_set (i := 2) sc_law_take.nd rfl (Or.inl rfl) (pe_op o_mod (pe_ix (x_ix (hu64 hr)) (pv 0) pe_int (fun _ _ => rfl)) (pv 1)))
  (pss_cons (ps_asg (pe_op o_div (pe_ix (x_ix (hu64 hr)) (pv 0) pe_int (fun _ _ => rfl)) (pv 1)) (pg_sub (pv 0) pe_int (s_set (hu64 hr))))
  (pss_one (ps_ret (pv 2))))) pss_nil)
  (pss_cons (ps_asg (pe_op o_add (pe_ix (x_ix (hu64 hr)) (pv 0) pe_int (fun _ _ => rfl)) pe_int) (pg_sub (pv 0) pe_int (s_set (hu64 hr))))
  (pss_cons (ps_set (i := 3) sc_law_take.nd rfl (Or.inl rfl) (pe_op o_mod (pe_op o_mul (pe_op o_add (pe_ix (x_ix (hu64 hr)) (pv 0) pe_int (fun _ _ => rfl)) (pe_op o_mul pe_int (pe_ix (x_ix (hu64 hr)) (pv 0) pe_int (fun _ _ => rfl)))) pe_int) pe_int))
  (pss_cons (ps_set (i := 3) sc_law_take.nd rfl (Or.inl rfl) (pe_op o_mod (pe_op o_mul (pv 3) (pv 3)) pe_int))
  (pss_cons (ps_set (i := 3) sc_law_take.nd rfl (Or.inl rfl) (pe_op o_mod (pe_op o_mul (pe_op o_add (pv 3) (pe_op o_mul pe_int (pe_ix (x_ix (hu64 hr)) (pv 0) pe_int (fun _ _ => rfl)))) pe_int) pe_int))
  (pss_one (ps_ret (pe_op o_mod (pe_op o_div (pv 3) pe_int) (pv 1))))))))), p_law_take T h⟩), g, F.kp, b⟩

/-! the book -/
/-- the rising list of the members -/
def ins (x : Int) : List Int → List Int
  | [] => [x]
  | y :: r => if x < y then x :: y :: r else if x = y then y :: r else y :: ins x r
def canon (l : List Int) : List Int := l.foldr ins []
theorem ins_mem {x z : Int} : ∀ {l : List Int}, z ∈ ins x l ↔ z = x ∨ z ∈ l
  | [] => by simp [ins]
  | y :: r => by
    unfold ins
    split
    · simp
    · split
      · rename_i e; subst e; simp
      · rw [List.mem_cons, ins_mem, List.mem_cons]; constructor
        · rintro (h | h | h) <;> simp [h]
        · rintro (h | h | h) <;> simp [h]
theorem ins_up {x : Int} : ∀ {l : List Int}, l.Pairwise (· < ·) → (ins x l).Pairwise (· < ·)
  | [], _ => by simp [ins]
  | y :: r, h => by
    have h' := List.pairwise_cons.mp h
    unfold ins
    split
    · rename_i lt
      refine List.pairwise_cons.mpr ⟨fun z hz => ?_, h⟩
      rcases List.mem_cons.mp hz with e | hz
      · omega
      · have := h'.1 z hz; omega
    · split
      · exact h
      · refine List.pairwise_cons.mpr ⟨fun z hz => ?_, ins_up h'.2⟩
        rcases ins_mem.mp hz with e | hz
        · omega
        · exact h'.1 z hz
theorem canon_mem {z : Int} : ∀ {l : List Int}, z ∈ canon l ↔ z ∈ l
  | [] => by simp [canon]
  | y :: r => by
    show z ∈ ins y (canon r) ↔ _
    rw [ins_mem, canon_mem, List.mem_cons]
theorem canon_up : ∀ (l : List Int), (canon l).Pairwise (· < ·)
  | [] => List.Pairwise.nil
  | y :: r => ins_up (canon_up r)
theorem up_eq : ∀ {a b : List Int}, a.Pairwise (· < ·) → b.Pairwise (· < ·) → (∀ z, z ∈ a ↔ z ∈ b) → a = b
  | [], [], _, _, _ => rfl
  | [], y :: r, _, _, h => absurd ((h y).mpr List.mem_cons_self) (by simp)
  | x :: a, [], _, _, h => absurd ((h x).mp List.mem_cons_self) (by simp)
  | x :: a, y :: b, ha, hb, h => by
    have ha' := List.pairwise_cons.mp ha
    have hb' := List.pairwise_cons.mp hb
    have e : x = y := by
      rcases List.mem_cons.mp ((h x).mp List.mem_cons_self) with e | h1
      · exact e
      · rcases List.mem_cons.mp ((h y).mpr List.mem_cons_self) with e | h2
        · exact e.symm
        · have := hb'.1 x h1; have := ha'.1 y h2; omega
    subst e
    refine congrArg (x :: ·) (up_eq ha'.2 hb'.2 fun z => ⟨fun hz => ?_, fun hz => ?_⟩)
    · rcases List.mem_cons.mp ((h z).mp (List.mem_cons_of_mem _ hz)) with e | h1
      · have := ha'.1 z hz; omega
      · exact h1
    · rcases List.mem_cons.mp ((h z).mpr (List.mem_cons_of_mem _ hz)) with e | h1
      · have := hb'.1 z hz; omega
      · exact h1
theorem canon_eq {l ns : List Int} (h1 : ns.Pairwise (· < ·)) (h2 : ∀ z, z ∈ ns ↔ z ∈ l) : ns = canon l := up_eq h1 (canon_up l) fun z => by rw [h2, canon_mem]
theorem ins_len (x : Int) : ∀ (l : List Int), (ins x l).length ≤ l.length + 1
  | [] => by simp [ins]
  | y :: r => by
    have := ins_len x r
    unfold ins
    split
    · simp
    · split
      · simp
      · simp only [List.length_cons]; omega
theorem canon_len' : ∀ (l : List Int), (canon l).length ≤ l.length
  | [] => by simp [canon]
  | y :: r => by
    have h1 := canon_len' r
    have h2 := ins_len y (canon r)
    show (ins y (canon r)).length ≤ _
    simp only [List.length_cons]; omega
theorem canon_self {l : List Int} (h : l.Pairwise (· < ·)) : canon l = l := (canon_eq h fun _ => Iff.rfl).symm
/-- a game: left's moves, right's -/
abbrev Gm := List Int × List Int
def gkey (g : Gm) : NestedKey := .tup [.tup (g.1.map .num), .tup (g.2.map .num)]
theorem num_inj : ∀ {a b : List Int}, a.map NestedKey.num = b.map NestedKey.num → a = b
  | [], [], _ => rfl
  | [], _ :: _, h => by simp at h
  | _ :: _, [], h => by simp at h
  | x :: a, y :: b, h => by
    rw [List.map_cons, List.map_cons] at h
    injection h with h1 h2
    injection h1 with h1
    rw [h1, num_inj h2]
theorem gkey_inj {a b : Gm} (h : gkey a = gkey b) : a = b := by
  unfold gkey at h
  injection h with h
  injection h with h1 h2
  injection h1 with h1
  injection h2 with h2 _
  injection h2 with h2
  exact Prod.ext (num_inj h1) (num_inj h2)
/-- the depths of the moves -/
def dps (ds ms : List Int) : List Int := ms.map fun m => ds[m.toNat]?.getD 0
def deepest (ds : List Int) (ms : List Int) (d : Int) : Prop := (ms = [] → d = 0) ∧ (∀ x ∈ dps ds ms, x + 1 ≤ d) ∧ (ms ≠ [] → ∃ x ∈ dps ds ms, d = x + 1)
theorem dps_more {ds e ms : List Int} (h : ∀ m ∈ ms, 0 ≤ m ∧ m < ds.length) : dps (ds ++ e) ms = dps ds ms := by
  refine List.map_congr_left fun m hm => ?_
  obtain ⟨h1, h2⟩ := h m hm
  rw [List.getElem?_append_left (by omega)]
/-- what holds of a book's games -/
structure GOk (gs : List Gm) : Prop where
  zero : gs[0]? = some ([], [])
  nd : gs.Nodup
  up : ∀ g ∈ gs, g.1.Pairwise (· < ·) ∧ g.2.Pairwise (· < ·)
  low : ∀ (i : Nat) (g : Gm), gs[i]? = some g → ∀ m ∈ g.1 ++ g.2, 0 ≤ m ∧ m < i
/-- the depths -/
structure DOk (gs : List Gm) (ds : List Int) : Prop where
  len : ds.length = gs.length
  at_ : ∀ (i : Nat) (g : Gm) (d : Int), gs[i]? = some g → ds[i]? = some d → deepest ds (g.1 ++ g.2) d
def bookFs (mv nm dp : Addr) : List (Str × V) := [("moves", .ref mv), ("numbers", .ref nm), ("depths", .ref dp)]
theorem bookFs_moves {mv nm dp : Addr} : (bookFs mv nm dp).lookup ("moves" : Str) = some (.ref mv) := by rfl
theorem bookFs_numbers {mv nm dp : Addr} : (bookFs mv nm dp).lookup ("numbers" : Str) = some (.ref nm) := by rfl
theorem bookFs_depths {mv nm dp : Addr} : (bookFs mv nm dp).lookup ("depths" : Str) = some (.ref dp) := by rfl
theorem bookFs_need {mv nm dp : Addr} : (bookFs mv nm dp).lookup ("need" : Str) = none := by rfl
theorem bookFs_game {mv nm dp : Addr} : (bookFs mv nm dp).lookup ("game" : Str) = none := by rfl
theorem bookFs_lefts {mv nm dp : Addr} : (bookFs mv nm dp).lookup ("lefts" : Str) = none := by rfl
theorem bookFs_rights {mv nm dp : Addr} : (bookFs mv nm dp).lookup ("rights" : Str) = none := by rfl
theorem bookFs_depth {mv nm dp : Addr} : (bookFs mv nm dp).lookup ("depth" : Str) = none := by rfl
theorem bookFs_many {mv nm dp : Addr} : (bookFs mv nm dp).lookup ("many" : Str) = none := by rfl
/-- the tuple at t is the game g -/
def GAt (H : Hp) (t : Addr) (g : Gm) : Prop := ∃ a b, H t = some (.tup [.ref a, .ref b]) ∧ H a = some (.tup (g.1.map V.int)) ∧ H b = some (.tup (g.2.map V.int))
structure BookAt (c : Cn) (H : Hp) (b : Addr) (M : Addr → Prop) (gs : List Gm) (ds : List Int) : Prop where
  ok : GOk gs
  dok : DOk gs ds
  ex : ∃ (dx mv nm dp : Addr) (ts : List Addr) (xs : List NX), H b = some (.ins c.cBook dx (bookFs mv nm dp)) ∧ H mv = some (.lst (ts.map V.ref)) ∧ Paired (GAt H) ts gs ∧
    NdAt c.P c.w H nm xs ∧ xs.length = gs.length ∧ (∀ g : Gm, nval xs (gkey g) = if g ∈ gs then some (V.int (gs.idxOf g)) else none) ∧ H dp = some (.lst (ds.map V.int)) ∧
    M mv ∧ M nm ∧ M dp ∧ mv ≠ dp ∧ ∀ x, M x → x = mv ∨ x = nm ∨ x = dp
theorem BookAt.ins_ {c : Cn} {H : Hp} {b : Addr} {M : Addr → Prop} {gs : List Gm} {ds : List Int} (B : BookAt c H b M gs ds) : ∃ dx mv nm dp, H b = some (.ins c.cBook dx (bookFs mv nm dp)) := by
  obtain ⟨dx, mv, nm, dp, _, _, h, _⟩ := B.ex
  exact ⟨dx, mv, nm, dp, h⟩
theorem paired_get {α β : Type} {R : α → β → Prop} : ∀ {xs : List α} {ys : List β} {i : Nat} {y : β}, Paired R xs ys → ys[i]? = some y → ∃ x, xs[i]? = some x ∧ R x y
  | _, _, _, _, .nil, h => by simp at h
  | _, _, 0, _, .cons r _, h => by simp at h; subst h; exact ⟨_, rfl, r⟩
  | _, _, i + 1, _, .cons _ t, h => by
    obtain ⟨x, h1, h2⟩ := paired_get (i := i) t (by simpa using h)
    exact ⟨x, by simpa using h1, h2⟩
theorem paired_keep {α β : Type} {R S : α → β → Prop} {xs : List α} {ys : List β} (h : Paired R xs ys) (f : ∀ a b, R a b → S a b) : Paired S xs ys := Paired.mapP h f
theorem GAt.keep {H H' : Hp} {t : Addr} {g : Gm} (h : GAt H t g) (k : ∀ b xs, H b = some (.tup xs) → H' b = some (.tup xs)) : GAt H' t g := by
  obtain ⟨a, b, h1, h2, h3⟩ := h
  exact ⟨a, b, k _ _ h1, k _ _ h2, k _ _ h3⟩
section
variable {c : Cn} {H H' : Hp} {b : Addr} {M N : Addr → Prop} {gs : List Gm} {ds : List Int}
theorem BookAt.cell (B : BookAt c H b M gs ds) {x : Addr} (h : M x) : (∃ l, H x = some (.lst l)) ∨ ∃ φ, H x = some (.ext φ) := by
  obtain ⟨dx, mv, nm, dp, ts, xs, _, h2, _, h4, _, _, h7, _, _, _, _, h8⟩ := B.ex
  rcases h8 x h with rfl | rfl | rfl
  · exact .inl ⟨_, h2⟩
  · exact .inr ⟨_, h4.here⟩
  · exact .inl ⟨_, h7⟩
theorem BookAt.new (B : BookAt c H b M gs ds) {x : Addr} (h : H x = none) : ¬ M x := fun z => by
  rcases B.cell z with ⟨_, e⟩ | ⟨_, e⟩ <;> rw [h] at e <;> cases e
theorem BookAt.tupN (B : BookAt c H b M gs ds) {x : Addr} {l : List V} (h : H x = some (.tup l)) : ¬ M x := fun z => by
  rcases B.cell z with ⟨_, e⟩ | ⟨_, e⟩ <;> rw [h] at e <;> cases e
theorem BookAt.insN (B : BookAt c H b M gs ds) {x C dx : Addr} {l : List (Str × V)} (h : H x = some (.ins C dx l)) : ¬ M x := fun z => by
  rcases B.cell z with ⟨_, e⟩ | ⟨_, e⟩ <;> rw [h] at e <;> cases e
theorem BookAt.keep (B : BookAt c H b M gs ds) (k : Keep N H H') (n : ∀ x, N x → ∃ l, H x = some (.lst l)) (d : ∀ x, M x → ¬ N x) : BookAt c H' b M gs ds := by
  obtain ⟨dx, mv, nm, dp, ts, xs, h1, h2, h3, h4, h5, h6, h7, m1, m2, m3, ne, h8⟩ := B.ex
  have kt : ∀ q ys, H q = some (.tup ys) → H' q = some (.tup ys) := fun q ys e => k _ _ (fun z => by obtain ⟨l, e'⟩ := n q z; rw [e] at e'; cases e') e
  refine ⟨B.ok, B.dok, dx, mv, nm, dp, ts, xs, k _ _ (fun z => ?_) h1, k _ _ (d _ m1) h2, paired_keep h3 fun t g q => q.keep kt, ⟨k _ _ (d _ m2) h4.here, fun x hx => ⟨NkV.keeps kt _ _ (h4.keys x hx).1, (h4.keys x hx).2⟩⟩, h5, h6, k _ _ (d _ m3) h7, m1, m2, m3, ne, h8⟩
  obtain ⟨l, e'⟩ := n b z; rw [h1] at e'; cases e'
theorem BookAt.same (B : BookAt c H b M gs ds) (k : Keep Nil H H') : BookAt c H' b M gs ds := B.keep k (fun _ z => z.elim) fun _ _ z => z
theorem BookAt.pos (B : BookAt c H b M gs ds) : 0 < gs.length := by
  have := B.ok.zero
  exact (List.getElem?_eq_some_iff.mp this).1
end
local macro_rules | `(tactic| kaf_suf) => `(tactic| first
  | ((with_reducible refine' r_kfld ?a (Txt.cl_Book (by assumption)) (Txt.na_Book_moves (by assumption)) bookFs_moves ?_); (case a => (kaf_pre; done)))
  | ((with_reducible refine' r_kfld ?a (Txt.cl_Book (by assumption)) (Txt.na_Book_numbers (by assumption)) bookFs_numbers ?_); (case a => (kaf_pre; done)))
  | ((with_reducible refine' r_kfld ?a (Txt.cl_Book (by assumption)) (Txt.na_Book_depths (by assumption)) bookFs_depths ?_); (case a => (kaf_pre; done)))
  | ((with_reducible refine' r_kmeth ?a ?b ?_); (case a => (kaf_pre; done)); (case b => (first | exact bookFs_need | exact bookFs_game | exact bookFs_lefts | exact bookFs_rights | exact bookFs_depth | exact bookFs_many))))

/-- what is a game's number, what is none -/
def GoodV (n : Nat) (v : V) : Prop := ∃ i : Int, v = .int i ∧ 0 ≤ i ∧ i < n
inductive BadV (H : Hp) (n : Nat) : V → Prop
  | int {i : Int} : (i < 0 ∨ (n : Int) ≤ i) → BadV H n (.int i)
  | bl (b : Bool) : BadV H n (.bl b)
  | non : BadV H n .non
  | str (s : Str) : BadV H n (.str s)
  | lst {a : Addr} {xs : List V} : H a = some (.lst xs) → BadV H n (.ref a)
  | tup {a : Addr} {xs : List V} : H a = some (.tup xs) → BadV H n (.ref a)
  | dic {a : Addr} {kvs : List (L2.Key × V)} : H a = some (.dK kvs) → BadV H n (.ref a)
theorem BadV.keep {H H' : Hp} {n : Nat} {v : V} (b : BadV H n v) (k : Keep Nil H H') : BadV H' n v := by
  cases b with
  | int h => exact .int h
  | bl b => exact .bl b
  | non => exact .non
  | str s => exact .str s
  | lst h => exact .lst (k.get (fun z => z) h)
  | tup h => exact .tup (k.get (fun z => z) h)
  | dic h => exact .dic (k.get (fun z => z) h)
theorem GoodV.not {H : Hp} {n : Nat} {v : V} (g : GoodV n v) (b : BadV H n v) : False := by
  obtain ⟨i, rfl, h0, h1⟩ := g
  cases b with
  | int h => omega
abbrev N_Book_need : List Str := ["self", "g"]
theorem sc_Book_need : FnScope N_Book_need ["self", "g"] (defScope s_Book_need) := ⟨rfl, rfl, rfl, by decide +kernel, rfl, by decide +kernel, by decide +kernel⟩
def t_Book_need (c : Cn) (E : XK) : TS :=
  (tIfS (tOr (tNot (tTru c.K (tCB (rIsi c.K) (tCons (tVar 1) (tCons (tC (.ty "int")) tNil))))) (tOr (tTru c.K (tCB (rIsi c.K) (tCons (tVar 1) (tCons (tC (.ty "bool")) tNil)))) (tOr (tTest (tOp (cLt c.K) (tVar 1) (tC (.int 0)))) (tTest (tOp cGe (tVar 1) (tCB (kLen c.K) (tCons (tFld c.K (tVar 0) "moves") tNil)))))))
  (tRaiseC c.cNoGame (fun cls d _ H => E cls d H))
  tNext)
def sp_Book_need (c : Cn) : Sp := fun vs H Q E => vs.length = 2 ∧ ∃ (b : Addr) (M : Addr → Prop) (gs : List Gm) (ds : List Int) (g : Int), vs = [.ref b, .int g] ∧ BookAt c H b M gs ds ∧ 0 ≤ g ∧ g < gs.length ∧ Q .non H
theorem p_Book_need {c : Cn} {mg : Str → Option Value} (T : Txt c mg) {vs : List V} {H : Hp} {Q : VK} {E : XK} (h : sp_Book_need c vs H Q E) : t_Book_need c E { nx := fun _ H' => Q .non H', rt := Q } (start N_Book_need vs) H := by
  obtain ⟨_, b, M, gs, ds, g, rfl, B, g0, g1, k⟩ := h
  obtain ⟨dx, mv, nm, dp, ts, xs, h1, h2, h3, h4, h5, h6, h7, m1, m2, m3, ne, h8⟩ := B.ex
  have hl : ((ts.map V.ref).length : Int) = gs.length := by rw [List.length_map, Paired.length h3]
  unfold t_Book_need
  repeat kaf_suf
  exact k
def sy_Book_need (c : Cn) : Sp := fun vs H Q E => vs.length = 2 ∧ ∃ (b : Addr) (M : Addr → Prop) (gs : List Gm) (ds : List Int) (v : V), vs = [.ref b, v] ∧ BookAt c H b M gs ds ∧ BadV H gs.length v ∧ E (.ref c.cNoGame) none H
theorem q_Book_need {c : Cn} {mg : Str → Option Value} (T : Txt c mg) {vs : List V} {H : Hp} {Q : VK} {E : XK} (h : sy_Book_need c vs H Q E) : t_Book_need c E { nx := fun _ H' => Q .non H', rt := Q } (start N_Book_need vs) H := by
  obtain ⟨_, b, M, gs, ds, v, rfl, B, bad, k⟩ := h
  obtain ⟨dx, mv, nm, dp, ts, xs, h1, h2, h3, h4, h5, h6, h7, m1, m2, m3, ne, h8⟩ := B.ex
  have hl : ((ts.map V.ref).length : Int) = gs.length := by rw [List.length_map, Paired.length h3]
  unfold t_Book_need
  have out : tRaiseC c.cNoGame (fun cls d _ H => E cls d H) { nx := fun _ H' => Q .non H', rt := Q } (start N_Book_need [V.ref b, v]) H := r_raiseC k
  cases bad with
  | @int i h =>
    by_cases lo : i < 0
    · (repeat kaf_suf)
      exact out
    · (repeat kaf_suf)
      exact out
  | bl b => (repeat kaf_suf); exact out
  | non => (repeat kaf_suf); exact out
  | str s => (repeat kaf_suf); exact out
  | lst h => (repeat kaf_suf); exact out
  | tup h => (repeat kaf_suf); exact out
  | dic h =>
    (repeat kaf_suf)
    refine v_isi (.ty "int") (.base (.dK h)) (kit_ty kit_dict_int) ?_
    (repeat kaf_suf)
    exact out
def sx_Book_need (c : Cn) : Sp := fun vs H Q E => vs.length = 2 ∧ (sp_Book_need c vs H Q E ∨ sy_Book_need c vs H Q E)
theorem metx_Book_need {c : Cn} {mg : Str → Option Value} {base : Heap} (T : Txt c mg) : Met c.P c.w c.K mg base (L2.CX c.P c.w) 1 c.cBook "need" (sx_Book_need c) := by
  obtain ⟨f, fd, F, g, b⟩ := T.F_Book_need
  exact ⟨f, fd, ["self", "g"], T.cl_Book, g, F.okX (k := 0) (N := N_Book_need) sc_Book_need (fun vs H Q E h => h.1) (fun cdv A outer s H vs Q E hr h => ⟨t_Book_need c E, by
  exact (pss_one (ps_if (PW.pt (pw_or (pt_not (p_tru (pe_callB k_isi (by rfl) T.n_isinstance (by decide +kernel) (pa_cons (pv 1) (pa_cons (pe_bltn rfl T.n_int (by decide +kernel) rfl) pa_nil))))) (pw_or (p_tru (pe_callB k_isi (by rfl) T.n_isinstance (by decide +kernel) (pa_cons (pv 1) (pa_cons (pe_bltn rfl T.n_bool (by decide +kernel) rfl) pa_nil)))) (pw_or (pt_cmpR (o_lt (hu64 hr)) (pv 1) pe_int (nomark _)) (pw_or1 (pt_cmpR o_ge (pv 1) (pe_callB k_len (by rfl) T.n_len (by decide +kernel) (pa_cons (pe_fld (pv 0) rfl) pa_nil)) (nomark _))))))) (pss_one (ps_raiseC rfl (takes_of rfl rfl rfl rfl) T.x_NoGame rfl)) pss_nil)), h.2.elim (p_Book_need T) (q_Book_need T)⟩), b⟩
theorem met_Book_need {c : Cn} {mg : Str → Option Value} {base : Heap} (T : Txt c mg) : Met c.P c.w c.K mg base (L2.CX c.P c.w) 1 c.cBook "need" (sp_Book_need c) := by
  obtain ⟨f, fd, ps, cl, m, F, b⟩ := (metx_Book_need T).ex
  exact ⟨⟨f, fd, ps, cl, m, F.imp fun vs H Q E h => ⟨h.1, .inl h⟩, b⟩⟩
/-! the games behind a putting -/
def addG (gs : List Gm) (k : Gm) : List Gm := if k ∈ gs then gs else gs ++ [k]
def ixG (gs : List Gm) (k : Gm) : Nat := gs.idxOf k
theorem nk_nums {H : Hp} : ∀ (l : List Int), NkVs H (l.map .num) (l.map V.int)
  | [] => by simp [NkVs]
  | x :: r => by
    simp only [List.map_cons, NkVs]
    exact ⟨_, _, rfl, by simp [NkV], nk_nums r⟩
theorem GAt.nk {H : Hp} {t : Addr} {g : Gm} (h : GAt H t g) : NkV H (gkey g) (.ref t) := by
  obtain ⟨a, b, h1, h2, h3⟩ := h
  unfold gkey
  simp only [NkV]
  refine ⟨t, _, rfl, h1, ?_⟩
  simp only [NkVs, NkV]
  exact ⟨_, _, rfl, ⟨a, _, rfl, h2, nk_nums _⟩, _, _, rfl, ⟨b, _, rfl, h3, nk_nums _⟩, rfl⟩
theorem dep_nums : ∀ (l : List Int), NestedKey.depthAll (l.map .num) ≤ 0
  | [] => by simp [NestedKey.depthAll]
  | x :: r => by
    have := dep_nums r
    simp only [List.map_cons, NestedKey.depthAll, NestedKey.depth]; omega
theorem gkey_depth (g : Gm) : (gkey g).depth ≤ 8 := by
  have h1 := dep_nums g.1
  have h2 := dep_nums g.2
  unfold gkey
  simp only [NestedKey.depth, NestedKey.depthAll]; omega
theorem nd_neL {P : Program} {w : World} {H : Hp} {a x : Addr} {xs : List NX} {l : List V} (N : NdAt P w H a xs) (h : H x = some (.lst l)) : x ≠ a := fun z => by
  rw [z, N.here] at h; unfold NdO at h; cases Option.some.inj h
theorem nd_neT {P : Program} {w : World} {H : Hp} {a x : Addr} {xs : List NX} {l : List V} (N : NdAt P w H a xs) (h : H x = some (.tup l)) : x ≠ a := fun z => by
  rw [z, N.here] at h; unfold NdO at h; cases Option.some.inj h
theorem nd_neI {P : Program} {w : World} {H : Hp} {a x C dx : Addr} {xs : List NX} {l : List (Str × V)} (N : NdAt P w H a xs) (h : H x = some (.ins C dx l)) : x ≠ a := fun z => by
  rw [z, N.here] at h; unfold NdO at h; cases Option.some.inj h
theorem lt_ne {H : Hp} {a x : Addr} {l m : List V} (N : H a = some (.lst m)) (h : H x = some (.tup l)) : x ≠ a := fun z => by
  rw [z, N] at h; cases h
theorem li_ne {H : Hp} {a x C dx : Addr} {l : List (Str × V)} {m : List V} (N : H a = some (.lst m)) (h : H x = some (.ins C dx l)) : x ≠ a := fun z => by
  rw [z, N] at h; cases h
theorem nput_new {xs : List NX} {k : NestedKey} {a : Addr} {v : V} (h : nval xs k = none) : nput xs k a v = xs ++ [(k, a, v)] := by
  unfold nput; rw [h]; rfl
theorem nval_snoc {xs : List NX} {k k' : NestedKey} {a : Addr} {v : V} : nval (xs ++ [(k, a, v)]) k' = (nval xs k').or (if k = k' then some v else none) := by
  unfold nval
  rw [List.find?_append]
  cases e : xs.find? fun x => decide (x.1 = k') with
  | some q => simp
  | none =>
    by_cases h : k = k'
    · simp [h]
    · simp [h]
theorem v_ninN {P : Program} {w : World} {K : PySem.W.Frag} {H : Hp} {Q : VK} {p a : Addr} {k : NestedKey} {xs : List NX} (N : NdAt P w H a xs) (kp : NkV H k (.ref p)) (d : k.depth ≤ 8) (q : Q (.bl (!(nval xs k).isSome)) H) : cNotIn P w K (.ref p) (.ref a) H Q := by
  refine .inr (.inr (.inr (.inr ⟨a, p, k, xs, rfl, rfl, N, kp, d, ?_⟩)))
  simpa using q
theorem v_inN {P : Program} {w : World} {K : PySem.W.Frag} {H : Hp} {Q : VK} {p a : Addr} {k : NestedKey} {xs : List NX} (N : NdAt P w H a xs) (kp : NkV H k (.ref p)) (d : k.depth ≤ 8) (q : Q (.bl (nval xs k).isSome) H) : cIn P w K (.ref p) (.ref a) H Q := by
  refine .inr (.inr (.inr (.inr ⟨a, p, k, xs, rfl, rfl, N, kp, d, ?_⟩)))
  simpa using q
theorem v_ixN {P : Program} {w : World} {K : PySem.W.Frag} {H : Hp} {Q : VK} {p a : Addr} {k : NestedKey} {xs : List NX} {v : V} (N : NdAt P w H a xs) (kp : NkV H k (.ref p)) (d : k.depth ≤ 8) (e : nval xs k = some v) (q : Q v H) : bIx P w K (.ref a) (.ref p) H Q :=
  .inr (.inr (.inr (.inr ⟨a, p, k, xs, v, rfl, rfl, N, kp, d, e, q⟩)))
theorem v_setN {P : Program} {w : World} {H : Hp} {Q : Hp → Prop} {p a : Addr} {k : NestedKey} {xs : List NX} {v : V} (N : NdAt P w H a xs) (kp : NkV H k (.ref p)) (d : k.depth ≤ 8) (l : xs.length < sizeLine) (q : Q (upd H a (NdO P w a (nput xs k p v)))) : bSet P w (.ref a) (.ref p) v H Q :=
  .inr (.inr ⟨a, p, k, xs, rfl, rfl, N, kp, d, l, q⟩)
theorem GOk.add {gs : List Gm} (o : GOk gs) {ls rs : List Int} (h : ∀ m ∈ ls ++ rs, 0 ≤ m ∧ m < gs.length) : GOk (addG gs (canon ls, canon rs)) := by
  unfold addG
  split
  · exact o
  · rename_i ni
    have pos : 0 < gs.length := (List.getElem?_eq_some_iff.mp o.zero).1
    refine ⟨?_, ?_, fun g hg => ?_, fun i g hi m hm => ?_⟩
    · rw [List.getElem?_append_left pos]; exact o.zero
    · refine List.nodup_append.mpr ⟨o.nd, by simp, fun a ha b hb => ?_⟩
      cases List.mem_singleton.mp hb
      exact fun z => ni (z ▸ ha)
    · rcases List.mem_append.mp hg with hg | hg
      · exact o.up g hg
      · cases List.mem_singleton.mp hg
        exact ⟨canon_up _, canon_up _⟩
    · by_cases lt : i < gs.length
      · rw [List.getElem?_append_left lt] at hi
        exact o.low i g hi m hm
      · have hl := (List.getElem?_eq_some_iff.mp hi).1
        have e : i = gs.length := by rw [List.length_append] at hl; simp at hl; omega
        subst e
        rw [List.getElem?_append_right (Nat.le_refl _)] at hi
        simp at hi
        subst hi
        rw [List.mem_append, canon_mem, canon_mem, ← List.mem_append] at hm
        exact h m hm
theorem DOk.add {gs : List Gm} {ds : List Int} (d : DOk gs ds) (o : GOk gs) {k : Gm} (h : ∀ m ∈ k.1 ++ k.2, 0 ≤ m ∧ m < gs.length) (ne : k.1 ++ k.2 ≠ []) {m : Int} (hm : m ∈ dps ds (k.1 ++ k.2)) (hx : ∀ x ∈ dps ds (k.1 ++ k.2), x ≤ m) : DOk (gs ++ [k]) (ds ++ [1 + m]) := by
  refine ⟨by simp [d.len], fun i g e hg he => ?_⟩
  by_cases lt : i < gs.length
  · rw [List.getElem?_append_left lt] at hg
    rw [List.getElem?_append_left (by rw [d.len]; exact lt)] at he
    have b : ∀ m ∈ g.1 ++ g.2, 0 ≤ m ∧ m < ds.length := fun m hm => by have := o.low i g hg m hm; rw [d.len]; omega
    unfold deepest
    rw [dps_more b]
    exact d.at_ i g e hg he
  · have hl := (List.getElem?_eq_some_iff.mp hg).1
    have e : i = gs.length := by rw [List.length_append] at hl; simp at hl; omega
    subst e
    rw [List.getElem?_append_right (Nat.le_refl _)] at hg
    rw [← d.len, List.getElem?_append_right (Nat.le_refl _)] at he
    simp at hg he
    subst hg he
    unfold deepest
    rw [dps_more (by rw [d.len]; exact h)]
    exact ⟨fun z => absurd z ne, fun x q => by have := hx x q; omega, fun _ => ⟨m, hm, by omega⟩⟩
theorem ixG_get {gs : List Gm} {k : Gm} (h : k ∈ gs) : gs[ixG gs k]? = some k := by
  have l := List.idxOf_lt_length_of_mem h
  rw [ixG, List.getElem?_eq_getElem l, List.getElem_idxOf l]
theorem addG_mem (gs : List Gm) (k : Gm) : k ∈ addG gs k := by
  unfold addG; split
  · assumption
  · simp
theorem addG_len {gs : List Gm} {k : Gm} : (addG gs k).length ≤ gs.length + 1 ∧ gs.length ≤ (addG gs k).length := by
  unfold addG; split <;> simp
theorem addG_get {gs : List Gm} {k g : Gm} {i : Nat} (h : gs[i]? = some g) : (addG gs k)[i]? = some g := by
  unfold addG; split
  · exact h
  · rw [List.getElem?_append_left (List.getElem?_eq_some_iff.mp h).1]; exact h
abbrev N_Book_game : List Str := ["self", "lefts", "rights", "g", "key"]
theorem sc_Book_game : FnScope N_Book_game ["self", "lefts", "rights"] (defScope s_Book_game) := ⟨rfl, rfl, rfl, by decide +kernel, rfl, by decide +kernel, by decide +kernel⟩
def t_Book_game (c : Cn) (E : XK) : TS :=
  (tSeq (tFor (iAny c.K (tOp (bAdd c.K) (tCB (kList c.K) (tCons (tVar 1) tNil)) (tCB (kList c.K) (tCons (tVar 2) tNil)))) (gName 3)
  (tDrop (tMeth c.cBook "need" (sx_Book_need c) [] E (tVar 0) (tCons (tVar 3) tNil))))
  (tSeq (tAsg (tTup (tCons (tCB (kTuple c.K) (tCons (tCB (kSorted c.K c.w) (tCons (tCB (uSetI c.K c.w) (tCons (tVar 1) tNil)) tNil)) tNil)) (tCons (tCB (kTuple c.K) (tCons (tCB (kSorted c.K c.w) (tCons (tCB (uSetI c.K c.w) (tCons (tVar 2) tNil)) tNil)) tNil)) tNil))) (gName 4))
  (C8.tCut (tIfS (tTest (tOp (cNotIn c.P c.w c.K) (tVar 4) (tFld c.K (tVar 0) "numbers")))
  (tSeq (tAsg (tCB (kLen c.K) (tCons (tFld c.K (tVar 0) "moves") tNil)) (gSub (tFld c.K (tVar 0) "numbers") (tVar 4) (bSet c.P c.w)))
  (tSeq (tDrop (tBM c.K "list" rAppend (tFld c.K (tVar 0) "moves") (tCons (tVar 4) tNil)))
  (tDrop (tBM c.K "list" rAppend (tFld c.K (tVar 0) "depths") (tCons (tOp (bAdd c.K) (tC (.int 1)) (tCB (kMax c.K) (tCons (tLc (iAny c.K (tOp (bAdd c.K) (tOp (bIx c.P c.w c.K) (tVar 4) (tC (.int 0))) (tOp (bIx c.P c.w c.K) (tVar 4) (tC (.int 1))))) (gName 3) tYes (tOp (bIx c.P c.w c.K) (tFld c.K (tVar 0) "depths") (tVar 3)) [3]) tNil))) tNil)))))
  tNext)
  (tRet (tOp (bIx c.P c.w c.K) (tFld c.K (tVar 0) "numbers") (tVar 4))))))
def sp_Book_game (c : Cn) : Sp := fun vs H Q E => vs.length = 3 ∧ ∃ (b l r : Addr) (M : Addr → Prop) (gs : List Gm) (ds ls rs : List Int), vs = [.ref b, .ref l, .ref r] ∧ BookAt c H b M gs ds ∧ H l = some (.lst (ls.map V.int)) ∧ H r = some (.lst (rs.map V.int)) ∧ ¬ M l ∧ ¬ M r ∧
  gs.length ≤ 90000 ∧ ls.length ≤ 4000 ∧ rs.length ≤ 4000 ∧ (∀ m ∈ ls ++ rs, 0 ≤ m ∧ m < gs.length) ∧
  ∀ (H' : Hp) (e : List Int), Keep M H H' → BookAt c H' b M (addG gs (canon ls, canon rs)) (ds ++ e) → Q (.int (ixG (addG gs (canon ls, canon rs)) (canon ls, canon rs))) H'
theorem p_Book_game {c : Cn} {mg : Str → Option Value} (T : Txt c mg) {vs : List V} {H : Hp} {Q : VK} {E : XK} (h : sp_Book_game c vs H Q E) : t_Book_game c E { nx := fun _ H' => Q .non H', rt := Q } (start N_Book_game vs) H := by
  obtain ⟨_, b, l, r, M, gs, ds, ls, rs, rfl, B, hl, hr, nl, nr, fw1, fw2, fw3, low, k⟩ := h
  unfold t_Book_game
  repeat kaf_suf
  intro p1 hp1
  repeat kaf_suf
  intro p2 hp2
  repeat kaf_suf
  intro p3 hp3
  repeat kaf_suf
  have kp3 : Keep Nil H (upd (upd (upd H p1 (.lst (ls.map V.int))) p2 (.lst (rs.map V.int))) p3 (.lst (ls.map V.int ++ rs.map V.int))) := ((Keep.alloc hp1).new hp2).new hp3
  have B3 := B.same kp3
  have hl3 := kp3.get (fun z => z) hl
  have hr3 := kp3.get (fun z => z) hr
  have h3 : upd (upd (upd H p1 (.lst (ls.map V.int))) p2 (.lst (rs.map V.int))) p3 (.lst (ls.map V.int ++ rs.map V.int)) p3 = some (.lst (ls.map V.int ++ rs.map V.int)) := upd_same
  generalize hH3 : upd (upd (upd H p1 (.lst (ls.map V.int))) p2 (.lst (rs.map V.int))) p3 (.lst (ls.map V.int ++ rs.map V.int)) = H3 at kp3 B3 hl3 hr3 h3 ⊢
  refine for_list (xs := ls.map V.int ++ rs.map V.int) (fun i σ H' => H' = H3 ∧ ∃ y, σ = [some (.ref b), some (.ref l), some (.ref r), y, none]) ⟨rfl, _, rfl⟩ ?_ ?_ ?_
  · rintro i σ H' hi ⟨rfl, y, rfl⟩; exact SqL.of h3
  · rintro i x σ H' hi ⟨rfl, y, rfl⟩
    obtain ⟨m, hm, rfl⟩ : ∃ m ∈ ls ++ rs, V.int m = x := by
      rw [← List.map_append] at hi
      have := List.mem_of_getElem? hi
      exact List.mem_map.mp this
    obtain ⟨hm0, hm1⟩ := low m hm
    obtain ⟨dx, mv, nm, dp, hb3⟩ := B3.ins_
    repeat kaf_suf
    refine ⟨rfl, .inl ⟨rfl, b, M, gs, ds, m, rfl, B3, hm0, hm1, ?_⟩⟩
    repeat kaf_suf
    exact ⟨rfl, _, rfl⟩
  · rintro σ H' ⟨rfl, y, rfl⟩
    have w1 : ls.length ≤ 4000 := by omega
    have w2 : rs.length ≤ 4000 := by omega
    repeat kaf_suf
    intro p4 c4 hp4 _
    repeat kaf_suf
    intro ns4 p5 u4 m4 _ hp5
    repeat kaf_suf
    intro p6 hp6
    repeat kaf_suf
    intro p7 c7 hp7 _
    repeat kaf_suf
    intro ns7 p8 u7 m7 _ hp8
    repeat kaf_suf
    intro p9 hp9
    repeat kaf_suf
    intro t ht
    repeat kaf_suf
    obtain rfl : ns4 = canon ls := canon_eq u4 (by simpa using m4)
    obtain rfl : ns7 = canon rs := canon_eq u7 (by simpa using m7)
    refine absS (S := fun HT => Keep Nil H HT ∧ GAt HT t (canon ls, canon rs)) ⟨?_, p6, p9, upd_same, by kaf_pre, by kaf_pre⟩ fun HT ⟨kT, gT⟩ => ?_
    · exact (((((((kp3.new hp4).new hp5).new hp6).new hp7).new hp8).new hp9).new ht)
    have BT := B.same kT
    obtain ⟨dx, mv, nm, dp, ts, xs, h1, h2, h3, h4, h5, h6, h7, m1, m2, m3, ne, h8⟩ := BT.ex
    have hlen := BT.dok.len
    have htl := Paired.length h3
    have hv := h6 (canon ls, canon rs)
    refine ⟨fun σ' H2 => ∃ y e, σ' = [some (.ref b), some (.ref l), some (.ref r), y, some (.ref t)] ∧ Keep M H H2 ∧ BookAt c H2 b M (addG gs (canon ls, canon rs)) (ds ++ e) ∧ GAt H2 t (canon ls, canon rs), ?_, ?_⟩
    · repeat kaf_suf
      refine v_ninN h4 gT.nk (gkey_depth _) ?_
      by_cases hin : (canon ls, canon rs) ∈ gs
      · rw [hv, if_pos hin]
        repeat kaf_suf
        exact ⟨_, [], rfl, kT.weak, by rw [List.append_nil, addG, if_pos hin]; exact BT, gT⟩
      · rw [hv, if_neg hin]
        rw [if_neg hin] at hv
        refine r_kB (r_ite_nf ?_)
        repeat kaf_suf
        have e1 := nd_neL h4 h2
        have e2 := nd_neL h4 h7
        have e3 := nd_neI h4 h1
        have e4 := li_ne h2 h1
        have e5 := li_ne h7 h1
        obtain ⟨ka, kb, t1, t2, t3⟩ := id gT
        have ea1 := nd_neT h4 t1
        have ea2 := lt_ne h2 t1
        have ea3 := lt_ne h7 t1
        have eb1 := nd_neT h4 t2
        have eb2 := lt_ne h2 t2
        have eb3 := lt_ne h7 t2
        have ec1 := nd_neT h4 t3
        have ec2 := lt_ne h2 t3
        have ec3 := lt_ne h7 t3
        refine v_setN h4 gT.nk (gkey_depth _) (few1 (by omega)) ?_
        rw [nput_new hv]
        repeat kaf_suf
        have g1 := canon_len' ls
        have g2 := canon_len' rs
        intro p H' hp' kp'
        repeat kaf_suf
        intro D hD
        have hall : ∀ m ∈ canon ls ++ canon rs, 0 ≤ m ∧ m < gs.length := fun m hm => low m (by rw [List.mem_append, canon_mem, canon_mem, ← List.mem_append] at hm; exact hm)
        have hDp : H' dp = some (.lst (ds.map V.int)) := by kaf_pre
        have hlen2 : (dps ds (canon ls ++ canon rs)).length = (canon ls ++ canon rs).length := List.length_map _
        refine lc_tup (xs := (canon ls).map V.int ++ (canon rs).map V.int) (fun i H2 => H2 D = some (.lst (((dps ds (canon ls ++ canon rs)).take i).map V.int)) ∧ Keep Nil H' H2) ⟨upd_same, Keep.alloc hD⟩ ?_ ?_ ?_
        · rintro i H2 _ ⟨_, k2⟩; exact SqT.of (by kaf_pre)
        · rintro i x H2 hi ⟨e2, k2⟩
          rw [← List.map_append, List.getElem?_map] at hi
          obtain ⟨m, hm, rfl⟩ := Option.map_eq_some_iff.mp hi
          obtain ⟨b1, b2⟩ := hall m (List.mem_of_getElem? hm)
          have hm' := (List.getElem?_eq_some_iff.mp hm).1
          rw [List.length_append] at hm'
          obtain ⟨n, rfl⟩ := Int.eq_ofNat_of_zero_le b1
          have hn : n < ds.length := by omega
          have hx : atI (ds.map V.int) (n : Int) = some (V.int ds[n]) := atI_get (n := n) (by simp [hn]) rfl
          repeat kaf_suf
          refine ⟨rfl, ?_⟩
          repeat kaf_suf
          refine ⟨_, e2, few1 (by simp; omega), ?_, k2.setN hD⟩
          rw [upd_same]
          have e : (dps ds (canon ls ++ canon rs))[i]? = some ds[n] := by
            rw [dps, List.getElem?_map, hm]; simp [hn]
          rw [List.take_succ, e]; simp
        · rintro H2 ⟨e2, k2⟩
          have e3 : H2 D = some (.lst ((dps ds (canon ls ++ canon rs)).map V.int)) := by
            rw [e2, List.take_of_length_le (by rw [hlen2]; simp)]
          repeat kaf_suf
          have ea : addG gs (canon ls, canon rs) = gs ++ [(canon ls, canon rs)] := if_neg hin
          have nee : canon ls ++ canon rs ≠ [] := fun z => by
            obtain ⟨z1, z2⟩ := List.append_eq_nil_iff.mp z
            rw [z1, z2] at hin
            exact hin (List.mem_of_getElem? B.ok.zero)
          refine v_maxL e3 (by rw [hlen2]; exact List.length_pos_iff.mpr nee) fun m hm hmax => ?_
          repeat kaf_suf
          have kf : Keep M HT (upd H2 dp (.lst (ds.map V.int ++ [V.int (1 + m)]))) := Keep.set (Keep.trans (Keep.trans (Keep.set (Keep.set Keep.refl m2) m1) kp'.weak) k2.weak) m3
          have kt : ∀ q ys, HT q = some (.tup ys) → (upd H2 dp (.lst (ds.map V.int ++ [V.int (1 + m)]))) q = some (.tup ys) := fun q ys e => kf q _ (BT.tupN e) e
          have gf := gT.keep kt
          have hnm : H' nm = some (NdO c.P c.w nm (xs ++ [(gkey (canon ls, canon rs), t, V.int ((ts.map V.ref).length : Nat))])) := kp'.get (fun z => z) (get_set e1.symm upd_same)
          refine ⟨_, [1 + m], rfl, kT.weak.trans kf, ⟨B.ok.add low, ?_, dx, mv, nm, dp, ts ++ [t], xs ++ [(gkey (canon ls, canon rs), t, V.int ((ts.map V.ref).length : Nat))], ?_, ?_, ?_, ⟨?_, ?_⟩, ?_, ?_, ?_, m1, m2, m3, ne, h8⟩, gf⟩
          · rw [ea]; exact B.dok.add B.ok hall nee hm hmax
          · kaf_pre
          · rw [List.map_append]; kaf_pre
          · rw [ea]; exact Paired.snoc (paired_keep h3 fun t g q => q.keep kt) gf
          · refine get_set ?_ (k2.get (fun z => z) hnm)
            tlg_ne
          · intro x hx
            rcases List.mem_append.mp hx with hx | hx
            · exact ⟨NkV.keeps kt _ _ (h4.keys x hx).1, (h4.keys x hx).2⟩
            · cases List.mem_singleton.mp hx
              exact ⟨gf.nk, gkey_depth _⟩
          · rw [ea]; simp [h5]
          · intro g
            rw [ea, nval_snoc, h6, List.length_map, htl]
            by_cases hg : g ∈ gs
            · rw [if_pos hg, if_pos (List.mem_append_left _ hg), List.idxOf_append, if_pos hg]; rfl
            · rw [if_neg hg]
              by_cases e : g = (canon ls, canon rs)
              · subst e
                rw [if_pos rfl, if_pos (List.mem_append_right _ List.mem_cons_self), List.idxOf_append, if_neg hg]
                simp
              · rw [if_neg (fun z => e (gkey_inj z).symm), if_neg (by simp [hg, e])]; rfl
          · rw [List.map_append]; exact upd_same
    · rintro σ' H2 ⟨y', e, rfl, k2, B2, g2⟩
      obtain ⟨dx, mv, nm, dp, ts, xs, h1, h2, h3, h4, h5, h6, h7, m1, m2, m3, ne, h8⟩ := B2.ex
      repeat kaf_suf
      refine v_ixN h4 g2.nk (gkey_depth _) ((h6 _).trans (if_pos (addG_mem _ _))) ?_
      repeat kaf_suf
      exact k H2 e k2 B2
/-- a putting with what is no game -/
def sy_Book_game (c : Cn) : Sp := fun vs H Q E => vs.length = 3 ∧ ∃ (b l r : Addr) (M : Addr → Prop) (gs : List Gm) (ds : List Int) (ls rs : List V), vs = [.ref b, .ref l, .ref r] ∧ BookAt c H b M gs ds ∧ H l = some (.lst ls) ∧ H r = some (.lst rs) ∧
  ls.length ≤ 4000 ∧ rs.length ≤ 4000 ∧ (∀ v ∈ ls ++ rs, GoodV gs.length v ∨ BadV H gs.length v) ∧ (∃ v ∈ ls ++ rs, BadV H gs.length v) ∧ ∀ H', Keep Nil H H' → E (.ref c.cNoGame) none H'
theorem q_Book_game {c : Cn} {mg : Str → Option Value} (T : Txt c mg) {vs : List V} {H : Hp} {Q : VK} {E : XK} (h : sy_Book_game c vs H Q E) : t_Book_game c E { nx := fun _ H' => Q .non H', rt := Q } (start N_Book_game vs) H := by
  obtain ⟨_, b, l, r, M, gs, ds, ls, rs, rfl, B, hl, hr, fw1, fw2, all, some_, k⟩ := h
  unfold t_Book_game
  repeat kaf_suf
  intro p1 hp1
  repeat kaf_suf
  intro p2 hp2
  repeat kaf_suf
  refine v_addL (by kaf_pre) (by kaf_pre) (few2 (by omega)) ?_
  intro p3 hp3
  repeat kaf_suf
  have kp3 : Keep Nil H (upd (upd (upd H p1 (.lst ls)) p2 (.lst rs)) p3 (.lst (ls ++ rs))) := ((Keep.alloc hp1).new hp2).new hp3
  have B3 := B.same kp3
  have h3 : upd (upd (upd H p1 (.lst ls)) p2 (.lst rs)) p3 (.lst (ls ++ rs)) p3 = some (.lst (ls ++ rs)) := upd_same
  generalize hH3 : upd (upd (upd H p1 (.lst ls)) p2 (.lst rs)) p3 (.lst (ls ++ rs)) = H3 at kp3 B3 h3 ⊢
  refine for_list (xs := ls ++ rs) (fun i σ H' => H' = H3 ∧ (∀ j v, j < i → (ls ++ rs)[j]? = some v → GoodV gs.length v) ∧ ∃ y, σ = [some (.ref b), some (.ref l), some (.ref r), y, none]) ⟨rfl, fun j v h => absurd h (Nat.not_lt_zero _), _, rfl⟩ ?_ ?_ ?_
  · rintro i σ H' hi ⟨rfl, _, y, rfl⟩; exact SqL.of h3
  · rintro i x σ H' hi ⟨rfl, gd, y, rfl⟩
    obtain ⟨dx, mv, nm, dp, hb3⟩ := B3.ins_
    repeat kaf_suf
    rcases all x (List.mem_of_getElem? hi) with g | bd
    · obtain ⟨m, rfl, hm0, hm1⟩ := id g
      refine ⟨rfl, .inl ⟨rfl, b, M, gs, ds, m, rfl, B3, hm0, hm1, ?_⟩⟩
      repeat kaf_suf
      refine ⟨rfl, fun j v hj hv => ?_, _, rfl⟩
      by_cases e : j = i
      · subst e; rw [hi] at hv; cases hv; exact g
      · exact gd j v (by omega) hv
    · exact ⟨rfl, .inr ⟨rfl, b, M, gs, ds, x, rfl, B3, bd.keep kp3, k _ kp3⟩⟩
  · rintro σ H' ⟨rfl, gd, y, rfl⟩
    obtain ⟨v, hv, bd⟩ := some_
    obtain ⟨j, hj, rfl⟩ := List.getElem_of_mem hv
    exact ((gd j _ hj (List.getElem?_eq_getElem hj)).not bd).elim
def sx_Book_game (c : Cn) : Sp := fun vs H Q E => vs.length = 3 ∧ (sp_Book_game c vs H Q E ∨ sy_Book_game c vs H Q E)
theorem metx_Book_game {c : Cn} {mg : Str → Option Value} {base : Heap} (T : Txt c mg) : Met c.P c.w c.K mg base (L2.CX c.P c.w) 2 c.cBook "game" (sx_Book_game c) := by
  obtain ⟨f, fd, F, g, b⟩ := T.F_Book_game
  exact ⟨f, fd, ["self", "lefts", "rights"], T.cl_Book, g, F.okX (k := 1) (N := N_Book_game) sc_Book_game (fun vs H Q E h => h.1) (fun cdv A outer s H vs Q E hr h => ⟨t_Book_game c E, by
  exact (pss_cons (ps_for (passes_of rfl) rfl (pi_any (pe_op o_add (pe_callTy (k_list rfl) (by rfl) T.n_list (by decide +kernel) (pa_cons (pv 1) pa_nil)) (pe_callTy (k_list rfl) (by rfl) T.n_list (by decide +kernel) (pa_cons (pv 2) pa_nil)))) (pg_name (i := 3) sc_Book_game.nd rfl (Or.inl rfl))
  (pss_one (ps_expr (e_meth (metx_Book_need T) hr (by decide) (passes_call (takes_of rfl rfl rfl rfl) fun _ _ _ _ z => z) (pv 0) (pa_cons (pv 3) pa_nil)))))
  (pss_cons (ps_set (i := 4) sc_Book_game.nd rfl (Or.inl rfl) (pe_tup (pa_cons (pe_callTy k_tuple (by rfl) T.n_tuple (by decide +kernel) (pa_cons (pe_callB (k_sorted rfl) (by rfl) T.n_sorted (by decide +kernel) (pa_cons (pe_callTy (k_set rfl) (by rfl) T.n_set (by decide +kernel) (pa_cons (pv 1) pa_nil)) pa_nil)) pa_nil)) (pa_cons (pe_callTy k_tuple (by rfl) T.n_tuple (by decide +kernel) (pa_cons (pe_callB (k_sorted rfl) (by rfl) T.n_sorted (by decide +kernel) (pa_cons (pe_callTy (k_set rfl) (by rfl) T.n_set (by decide +kernel) (pa_cons (pv 2) pa_nil)) pa_nil)) pa_nil)) pa_nil))))
  (C8.pss_cut (ps_if (pt_cmpR (o_notin (hu65 hr)) (pv 4) (pe_fld (pv 0) rfl) (by rfl)) (pss_cons (ps_asg (pe_callB k_len (by rfl) T.n_len (by decide +kernel) (pa_cons (pe_fld (pv 0) rfl) pa_nil)) (pg_sub (pe_fld (pv 0) rfl) (pv 4) (s_set (hu64 hr))))
  (pss_cons (ps_expr (pe_bm PySem.F.plainAttrs_list PySem.F.slot_list_append PySem.F.type_list_append mt_append (pe_fld (pv 0) rfl) (pa_cons (pv 4) pa_nil)))
  (pss_one (ps_expr (pe_bm PySem.F.plainAttrs_list PySem.F.slot_list_append PySem.F.type_list_append mt_append (pe_fld (pv 0) rfl) (pa_cons (pe_op o_add pe_int (pe_callB (k_max rfl) (by rfl) T.n_max (by decide +kernel) (pa_cons (pe_lc (own := [("g", 3)]) rfl sc_Book_game.nd (pi_any (pe_op o_add (pe_ix (x_ix (hu64 hr)) (pv 4) pe_int (fun _ _ => rfl)) (pe_ix (x_ix (hu64 hr)) (pv 4) pe_int (fun _ _ => rfl)))) (blkOk_by (own := [("g", 3)]) (N := N_Book_game) (sc := defScope s_Book_game) (by decide +kernel)) (fun _ _ _ _ _ => (pg_name (i := 3) sc_Book_game.nd rfl (Or.inl rfl))) (fun _ _ _ _ _ => pts_nil) (fun _ _ _ _ _ => (pe_ix (x_ix (hu64 hr)) (pe_fld (pv 0) rfl) (pv 3) (fun _ _ => rfl)))) pa_nil))) pa_nil)))))) pss_nil)
  (pss_one (ps_ret (pe_ix (x_ix (hu64 hr)) (pe_fld (pv 0) rfl) (pv 4) (fun _ _ => rfl))))))), h.2.elim (p_Book_game T) (q_Book_game T)⟩), b⟩
theorem met_Book_game {c : Cn} {mg : Str → Option Value} {base : Heap} (T : Txt c mg) : Met c.P c.w c.K mg base (L2.CX c.P c.w) 2 c.cBook "game" (sp_Book_game c) := by
  obtain ⟨f, fd, ps, cl, m, F, b⟩ := (metx_Book_game T).ex
  exact ⟨⟨f, fd, ps, cl, m, F.imp fun vs H Q E h => ⟨h.1, .inl h⟩, b⟩⟩
/-! the book as it is made; how many -/
theorem putF_0 {x : V} : putF ("moves" : Str) x [] = [(("moves" : Str), x)] := by rfl
theorem putF_1 {x y : V} : putF ("numbers" : Str) y [(("moves" : Str), x)] = [(("moves" : Str), x), (("numbers" : Str), y)] := by
  unfold putF; rw [if_neg (by decide)]; rfl
theorem putF_2 {x y z : V} : putF ("depths" : Str) z [(("moves" : Str), x), (("numbers" : Str), y)] = [(("moves" : Str), x), (("numbers" : Str), y), (("depths" : Str), z)] := by
  unfold putF; rw [if_neg (by decide)]; unfold putF; rw [if_neg (by decide)]; rfl
theorem GOk.one : GOk [([], [])] := ⟨rfl, by simp, fun g hg => by cases List.mem_singleton.mp hg; exact ⟨List.Pairwise.nil, List.Pairwise.nil⟩, fun i g h m hm => by
  cases i with
  | zero => simp at h; subst h; simp at hm
  | succ i => simp at h⟩
theorem DOk.one : DOk [([], [])] [0] := ⟨rfl, fun i g d h hd => by
  cases i with
  | zero => simp at h hd; subst h hd; exact ⟨fun _ => rfl, fun x hx => by simp [dps] at hx, fun z => absurd rfl z⟩
  | succ i => simp at h⟩
abbrev N_Book_init : List Str := ["self"]
theorem sc_Book_init : FnScope N_Book_init ["self"] (defScope s_Book_init) := ⟨rfl, rfl, rfl, by decide +kernel, rfl, by decide +kernel, by decide +kernel⟩
def t_Book_init (c : Cn) : TS :=
  (tSeq (sFld c.K (tVar 0) (tLst (tCons (tTup (tCons (tTup tNil) (tCons (tTup tNil) tNil))) tNil)) "moves")
  (tSeq (sFld c.K (tVar 0) (uDisp1 c.P c.w (tTup (tCons (tTup tNil) (tCons (tTup tNil) tNil))) (tC (.int 0))) "numbers")
  (sFld c.K (tVar 0) (tLst (tCons (tC (.int 0)) tNil)) "depths")))
def sp_Book_init (c : Cn) : Sp := fun vs H Q E => vs.length = 1 ∧ ∃ (b dx : Addr), vs = [.ref b] ∧ H b = some (.ins c.cBook dx []) ∧
  ∀ (H' : Hp) (M : Addr → Prop), Keep (fun x => x = b) H H' → BookAt c H' b M [([], [])] [0] → (∀ x, M x → H x = none) → Q .non H'
theorem p_Book_init {c : Cn} {mg : Str → Option Value} (T : Txt c mg) {vs : List V} {H : Hp} {Q : VK} {E : XK} (h : sp_Book_init c vs H Q E) : t_Book_init c { nx := fun _ H' => Q .non H', rt := Q } (start N_Book_init vs) H := by
  obtain ⟨_, b, dx, rfl, hb, k⟩ := h
  unfold t_Book_init
  repeat kaf_suf
  intro p1 hp1
  repeat kaf_suf
  intro p2 hp2
  repeat kaf_suf
  intro p3 hp3
  repeat kaf_suf
  intro mv hmv
  repeat kaf_suf
  refine r_ksfld (by kaf_pre) (Txt.cl_Book T) (Txt.na_Book_moves T) (by decide) ?_
  repeat kaf_suf
  intro nm hnm
  repeat kaf_suf
  intro p4 hp4
  repeat kaf_suf
  intro p5 hp5
  repeat kaf_suf
  intro t ht
  repeat kaf_suf
  have w0 : nm ≠ mv := ne_new hnm (show _ = some (HO.lst [V.ref p3]) by kaf_pre)
  have w1 : b ≠ nm := ne_old hnm upd_same
  have w2 : mv ≠ b := ne_new hmv (by kaf_pre)
  have w3 : p3 ≠ mv := ne_old hmv upd_same
  have hnm0 : H nm = none := by
    have h0 := none_of_upd hnm
    exact none_of_upd (none_of_upd (none_of_upd (none_of_upd h0)))
  have hmv0 : H mv = none := none_of_upd (none_of_upd (none_of_upd hmv))
  refine ⟨gkey ([], []), t, rfl, by kaf_pre, GAt.nk (g := ([], [])) ⟨p4, p5, by kaf_pre, by kaf_pre, by kaf_pre⟩, gkey_depth _, ?_⟩
  repeat kaf_suf
  refine r_ksfld (by kaf_pre) (Txt.cl_Book T) (Txt.na_Book_numbers T) (by rw [putF_0]; simp) ?_
  repeat kaf_suf
  intro dp hdp
  repeat kaf_suf
  refine r_ksfld (by kaf_pre) (Txt.cl_Book T) (Txt.na_Book_depths T) (by rw [putF_0, putF_1]; simp) ?_
  repeat kaf_suf
  have hdp0 : H dp = none := by
    have := hdp
    repeat (first | exact this | replace this := none_of_upd this)
  have w4 : dp ≠ mv := ne_new hdp (show _ = some (HO.lst [V.ref p3]) by kaf_pre)
  have w5 : dp ≠ nm := ne_new hdp (show _ = some (NdO c.P c.w nm [(gkey ([], []), t, V.int 0)]) by kaf_pre)
  have w6 : dp ≠ b := ne_new hdp upd_same
  have x3 : p3 ≠ nm := ne_old hnm (by kaf_pre)
  have x2 : p2 ≠ nm := ne_old hnm (by kaf_pre)
  have x1 : p1 ≠ nm := ne_old hnm (by kaf_pre)
  have y3 : p3 ≠ b := ne_new hp3 (by kaf_pre)
  have y2 : p2 ≠ b := ne_new hp2 (by kaf_pre)
  have y1 : p1 ≠ b := ne_new hp1 (by kaf_pre)
  have z4 : p4 ≠ b := ne_new hp4 (by kaf_pre)
  have z5 : p5 ≠ b := ne_new hp5 (by kaf_pre)
  have z6 : t ≠ b := ne_new ht (by kaf_pre)
  have q4 : p4 ≠ nm := ne_new hp4 upd_same
  have q5 : p5 ≠ nm := ne_new hp5 (by kaf_pre)
  have q6 : t ≠ nm := ne_new ht (by kaf_pre)
  refine absQ (S := fun H' => Keep (fun x => x = b) H H' ∧ H' b = some (.ins c.cBook dx (bookFs mv nm dp)) ∧ H' mv = some (.lst [.ref p3]) ∧ H' p3 = some (.tup [.ref p1, .ref p2]) ∧ H' p1 = some (.tup []) ∧ H' p2 = some (.tup []) ∧
    H' nm = some (NdO c.P c.w nm [(gkey ([], []), t, V.int 0)]) ∧ H' t = some (.tup [.ref p4, .ref p5]) ∧ H' p4 = some (.tup []) ∧ H' p5 = some (.tup []) ∧ H' dp = some (.lst [.int 0])) ⟨?_, ?_, ?_, ?_, ?_, ?_, ?_, ?_, ?_, ?_, ?_⟩ fun HX ⟨f0, f1, f2, f3, f4, f5, f6, f7, f8, f9, f10⟩ => ?_
  · repeat (first | exact Keep.refl | refine' Keep.set ?_ rfl | refine' Keep.new ?_ (by assumption) | refine' Keep.setN ?_ (by assumption))
  · rw [putF_0, putF_1, putF_2]; exact upd_same
  · kaf_pre
  · kaf_pre
  · kaf_pre
  · kaf_pre
  · kaf_pre
  · kaf_pre
  · kaf_pre
  · kaf_pre
  · kaf_pre
  refine k HX (fun x => x = mv ∨ x = nm ∨ x = dp) f0 ⟨GOk.one, DOk.one, dx, mv, nm, dp, [p3], [(gkey ([], []), t, V.int 0)], f1, f2, .cons ⟨p1, p2, f3, f4, f5⟩ .nil, ⟨f6, fun x hx => ?_⟩, rfl, fun g => ?_, f10, .inl rfl, .inr (.inl rfl), .inr (.inr rfl), w4.symm, fun _ h => h⟩ fun x hx => ?_
  · cases List.mem_singleton.mp hx
    exact ⟨GAt.nk (g := ([], [])) ⟨p4, p5, f7, f8, f9⟩, gkey_depth _⟩
  · by_cases e : g = ([], [])
    · subst e; rfl
    · have e' : ¬ gkey ([], []) = gkey g := fun z => e (gkey_inj z).symm
      rw [if_neg (by simpa using e)]
      simp [nval, e']
  · rcases hx with rfl | rfl | rfl <;> assumption
theorem mak_Book {c : Cn} {mg : Str → Option Value} {base : Heap} (T : Txt c mg) : Mak c.P c.w c.K mg base CX0 1 "Book" c.cBook (sp_Book_init c) := by
  obtain ⟨f, fd, F, g, b⟩ := T.F_Book_init
  exact ⟨f, fd, ["self"], g, F.ok (k := 0) (N := N_Book_init) sc_Book_init (fun vs H Q E h => h.1) (fun cdv A outer s H vs Q E hr h => ⟨t_Book_init c, by
  exact (pss_cons (ps_fld (pv 0) (pe_lst (pa_cons (pe_tup (pa_cons (pe_tup pa_nil) (pa_cons (pe_tup pa_nil) pa_nil))) pa_nil)) rfl)
  (pss_cons (ps_fld (pv 0) (pe_disp1 (hu64 hr) (pe_tup (pa_cons (pe_tup pa_nil) (pa_cons (pe_tup pa_nil) pa_nil))) pe_int) rfl)
  (pss_one (ps_fld (pv 0) (pe_lst (pa_cons pe_int pa_nil)) rfl)))), p_Book_init T h⟩), T.g_Book, b⟩

abbrev N_Book_many : List Str := ["self"]
theorem sc_Book_many : FnScope N_Book_many ["self"] (defScope s_Book_many) := ⟨rfl, rfl, rfl, by decide +kernel, rfl, by decide +kernel, by decide +kernel⟩
def t_Book_many (c : Cn) : TS :=
  (tRet (tCB (kLen c.K) (tCons (tFld c.K (tVar 0) "moves") tNil)))
def sp_Book_many (c : Cn) : Sp := fun vs H Q E => vs.length = 1 ∧ ∃ (b : Addr) (M : Addr → Prop) (gs : List Gm) (ds : List Int), vs = [.ref b] ∧ BookAt c H b M gs ds ∧ Q (.int gs.length) H
theorem p_Book_many {c : Cn} {mg : Str → Option Value} (T : Txt c mg) {vs : List V} {H : Hp} {Q : VK} {E : XK} (h : sp_Book_many c vs H Q E) : t_Book_many c { nx := fun _ H' => Q .non H', rt := Q } (start N_Book_many vs) H := by
  obtain ⟨_, b, M, gs, ds, rfl, B, k⟩ := h
  obtain ⟨dx, mv, nm, dp, ts, xs, h1, h2, h3, h4, h5, h6, h7, m1, m2, m3, ne, h8⟩ := B.ex
  unfold t_Book_many
  repeat kaf_suf
  rw [List.length_map, Paired.length h3]
  exact k
theorem met_Book_many {c : Cn} {mg : Str → Option Value} {base : Heap} (T : Txt c mg) : Met c.P c.w c.K mg base CX0 1 c.cBook "many" (sp_Book_many c) := by
  obtain ⟨f, fd, F, g, b⟩ := T.F_Book_many
  exact ⟨f, fd, ["self"], T.cl_Book, g, F.ok (k := 0) (N := N_Book_many) sc_Book_many (fun vs H Q E h => h.1) (fun cdv A outer s H vs Q E hr h => ⟨t_Book_many c, by
  exact (pss_one (ps_ret (pe_callB k_len (by rfl) T.n_len (by decide +kernel) (pa_cons (pe_fld (pv 0) rfl) pa_nil)))), p_Book_many T h⟩), b⟩

/-! rows of games: a list of pairs of lists -/
def dInts (l : List Int) : PyData := .list (l.map PyData.int)
def dRow (g : Gm) : PyData := .tuple [dInts g.1, dInts g.2]
theorem eqv_ints : ∀ ns ms : List Int, PyData.eqvAll (ns.map PyData.int) (ms.map PyData.int) = decide (ns = ms)
  | [], [] => by simp [PyData.eqvAll]
  | [], _ :: _ => by simp [PyData.eqvAll]
  | _ :: _, [] => by simp [PyData.eqvAll]
  | a :: r, b :: t => by
    simp only [List.map_cons, PyData.eqvAll, PyData.eqv, eqv_ints r t]
    by_cases h : a = b <;> by_cases h' : r = t <;> simp [h, h']
theorem eqv_dInts (a b : List Int) : PyData.eqv (dInts a) (dInts b) = decide (a = b) := by
  unfold dInts; simp only [PyData.eqv]; exact eqv_ints a b
theorem eqv_dRow (g k : Gm) : PyData.eqv (dRow g) (dRow k) = decide (g = k) := by
  have e : PyData.eqv (dRow g) (dRow k) = (PyData.eqv (dInts g.1) (dInts k.1) && (PyData.eqv (dInts g.2) (dInts k.2) && true)) := by simp only [dRow, PyData.eqv, PyData.eqvAll]
  rw [e, eqv_dInts, eqv_dInts]
  obtain ⟨a, b⟩ := g; obtain ⟨a', b'⟩ := k
  by_cases h : a = a' <;> by_cases h' : b = b' <;> simp [h, h']
theorem lay_ints : ∀ ns : List Int, PyData.canLayAll0 (ns.map PyData.int) = true
  | [] => by simp [PyData.canLayAll0]
  | _ :: r => by simp [PyData.canLayAll0, PyData.canLay0, lay_ints r]
theorem dpt_ints : ∀ ns : List Int, PyData.depthAll (ns.map PyData.int) = 0
  | [] => by simp [PyData.depthAll]
  | _ :: r => by simp [PyData.depthAll, PyData.depth, dpt_ints r]
theorem dInts_lay (l : List Int) : (dInts l).canLay0 = true := by unfold dInts; simp only [PyData.canLay0]; exact lay_ints l
theorem dInts_dep (l : List Int) : (dInts l).depth = 1 := by unfold dInts; simp only [PyData.depth, dpt_ints]
theorem dRow_lay (g : Gm) : (dRow g).canLay0 = true := by simp [dRow, PyData.canLay0, PyData.canLayAll0, dInts_lay]
theorem dRow_dep (g : Gm) : (dRow g).depth = 2 := by simp [dRow, PyData.depth, PyData.depthAll, dInts_dep]
theorem dRows_lay : ∀ gs : List Gm, PyData.canLayAll0 (gs.map dRow) = true
  | [] => by simp [PyData.canLayAll0]
  | g :: r => by simp [PyData.canLayAll0, dRow_lay g, dRows_lay r]
theorem dRows_dep : ∀ gs : List Gm, PyData.depthAll (gs.map dRow) ≤ 2
  | [] => by simp [PyData.depthAll]
  | g :: r => by
    have h1 := dRows_dep r
    have h2 := dRow_dep g
    simp only [List.map_cons, PyData.depthAll]; omega
theorem shaped_of {d : PyData} (h : d.canLay0 = true) (k : d.depth ≤ 64) : SeqAt.shaped d = true := by
  show (d.canLay0 && decide (d.depth ≤ 64)) = true
  rw [Bool.and_eq_true]
  exact ⟨h, decide_eq_true k⟩
theorem dInts_sh (l : List Int) : SeqAt.shaped (dInts l) = true := shaped_of (dInts_lay l) (by rw [dInts_dep]; omega)
theorem dRow_sh (g : Gm) : SeqAt.shaped (dRow g) = true := shaped_of (dRow_lay g) (by rw [dRow_dep]; omega)
theorem dRows_sh (gs : List Gm) : SeqAt.shaped (.list (gs.map dRow)) = true := shaped_of (by simp only [PyData.canLay0]; exact dRows_lay gs) (by have := dRows_dep gs; simp only [PyData.depth]; omega)
theorem dTwo_sh (a b : List Int) : SeqAt.shaped (.list [dInts a, dInts b]) = true := shaped_of (by simp [PyData.canLay0, PyData.canLayAll0, dInts_lay]) (by simp [PyData.depth, PyData.depthAll, dInts_dep])
theorem eqv_two (a b a' b' : List Int) : PyData.eqv (.list [dInts a, dInts b]) (.list [dInts a', dInts b']) = (decide (a = a') && decide (b = b')) := by
  simp only [PyData.eqv, PyData.eqvAll, eqv_dInts, Bool.and_true]
theorem dp_all {K : PySem.W.Frag} {H : Hp} : ∀ (l : List Int), DpAll K H (l.map V.int) (l.map PyData.int)
  | [] => .nil
  | x :: r => .cons (.int x) (dp_all r)
theorem dp_ints {K : PySem.W.Frag} {H : Hp} {a : Addr} {l : List Int} (h : H a = some (.lst (l.map V.int))) : Dp K H (.ref a) (dInts l) := .lst (SqL.of h) (dp_all l)
theorem dp_two {K : PySem.W.Frag} {H : Hp} {p a b : Addr} {l m : List Int} (h : H p = some (.lst [.ref a, .ref b])) (h1 : H a = some (.lst (l.map V.int))) (h2 : H b = some (.lst (m.map V.int))) : Dp K H (.ref p) (.list [dInts l, dInts m]) :=
  .lst (SqL.of h) (.cons (dp_ints h1) (.cons (dp_ints h2) .nil))
def RowAt (W : Addr → Prop) (H : Hp) (t : Addr) (g : Gm) : Prop := ∃ a b, H t = some (.tup [.ref a, .ref b]) ∧ H a = some (.lst (g.1.map V.int)) ∧ H b = some (.lst (g.2.map V.int)) ∧ ¬ W t ∧ ¬ W a ∧ ¬ W b
theorem RowAt.keep {W : Addr → Prop} {H H' : Hp} {t : Addr} {g : Gm} (r : RowAt W H t g) (k : Keep W H H') : RowAt W H' t g := by
  obtain ⟨a, b, h1, h2, h3, n1, n2, n3⟩ := r
  exact ⟨a, b, k _ _ n1 h1, k _ _ n2 h2, k _ _ n3 h3, n1, n2, n3⟩
theorem RowAt.dp {K : PySem.W.Frag} {W : Addr → Prop} {H : Hp} {t : Addr} {g : Gm} (r : RowAt W H t g) : Dp K H (.ref t) (dRow g) := by
  obtain ⟨a, b, h1, h2, h3, _⟩ := r
  exact .tup (SqT.of h1) (.cons (dp_ints h2) (.cons (dp_ints h3) .nil))
def RowsAt (W : Addr → Prop) (H : Hp) (R : Addr) (gs : List Gm) : Prop := ∃ ks : List Addr, H R = some (.lst (ks.map V.ref)) ∧ Paired (RowAt W H) ks gs
theorem rows_dp {K : PySem.W.Frag} {W : Addr → Prop} {H : Hp} {ks : List Addr} {gs : List Gm} (p : Paired (RowAt W H) ks gs) : DpAll K H (ks.map V.ref) (gs.map dRow) := by
  induction p with
  | nil => exact .nil
  | cons r _ ih => exact .cons r.dp ih
theorem RowsAt.dp {K : PySem.W.Frag} {W : Addr → Prop} {H : Hp} {R : Addr} {gs : List Gm} (r : RowsAt W H R gs) : Dp K H (.ref R) (.list (gs.map dRow)) := by
  obtain ⟨ks, h, p⟩ := r
  exact .lst (SqL.of h) (rows_dp p)
theorem any_row (gs : List Gm) (k : Gm) : ((gs.map dRow).any fun z => PyData.eqv z (dRow k)) = decide (k ∈ gs) := by
  rw [List.any_map]
  have e : ((fun z => PyData.eqv z (dRow k)) ∘ dRow) = fun g => decide (g = k) := by funext g; exact eqv_dRow g k
  rw [e]
  by_cases h : k ∈ gs
  · rw [decide_eq_true h]; exact List.any_eq_true.mpr ⟨k, h, by simp⟩
  · rw [decide_eq_false h]; exact List.any_eq_false.mpr fun x hx => by simp; intro z; exact h (z ▸ hx)
theorem v_ninRows {P : Program} {w : World} {K : PySem.W.Frag} {W : Addr → Prop} {H : Hp} {Q : VK} {t R : Addr} {k : Gm} {gs : List Gm} (r : RowsAt W H R gs) (h : RowAt W H t k) (q : Q (.bl (!decide (k ∈ gs))) H) : cNotIn P w K (.ref t) (.ref R) H Q :=
  .inr (.inl ⟨_, _, h.dp, r.dp, dRow_sh _, dRows_sh _, by rw [any_row]; exact q⟩)
theorem v_indexRows {K : PySem.W.Frag} {W : Addr → Prop} {H : Hp} {Q : VK} {t R : Addr} {k : Gm} {gs : List Gm} (r : RowsAt W H R gs) (h : RowAt W H t k) (m : k ∈ gs) (q : Q (.int (ixG gs k)) H) : kIndex K (.ref R) [.ref t] H Q := by
  refine .inr ⟨R, .ref t, dRow k, gs.map dRow, ixG gs k, dRow k, rfl, rfl, r.dp, h.dp, dRows_sh _, dRow_sh _, ?_, by rw [eqv_dRow]; simp, fun j z hj hz => ?_, q⟩
  · rw [List.getElem?_map, ixG_get m]; rfl
  · rw [List.getElem?_map] at hz
    obtain ⟨g, hg, rfl⟩ := Option.map_eq_some_iff.mp hz
    rw [eqv_dRow]
    refine decide_eq_false fun e => ?_
    subst e
    obtain ⟨hl, hg⟩ := List.getElem?_eq_some_iff.mp hg
    have := List.not_of_lt_findIdx (p := fun x => x == g) (xs := gs) (i := j) hj
    simp [hg] at this
theorem up_len : ∀ (l : List Int) (lo n : Int), l.Pairwise (· < ·) → (∀ x ∈ l, lo ≤ x ∧ x < n) → lo ≤ n → (l.length : Int) ≤ n - lo
  | [], lo, n, _, _, h => by simp; omega
  | x :: r, lo, n, u, b, _ => by
    have u' := List.pairwise_cons.mp u
    have bx := b x List.mem_cons_self
    have := up_len r (x + 1) n u'.2 (fun y hy => ⟨by have := u'.1 y hy; omega, (b y (List.mem_cons_of_mem _ hy)).2⟩) (by omega)
    simp only [List.length_cons]; omega
theorem RowsAt.keep {W : Addr → Prop} {H H' : Hp} {R : Addr} {gs : List Gm} (r : RowsAt W H R gs) (k : Keep W H H') (e : ∀ o, H R = some o → H' R = some o) : RowsAt W H' R gs := by
  obtain ⟨ks, h, p⟩ := r
  exact ⟨ks, e _ h, paired_keep p fun t g q => q.keep k⟩

/-! the moves as they are told -/
abbrev N_Book_lefts : List Str := ["self", "g"]
theorem sc_Book_lefts : FnScope N_Book_lefts ["self", "g"] (defScope s_Book_lefts) := ⟨rfl, rfl, rfl, by decide +kernel, rfl, by decide +kernel, by decide +kernel⟩
def t_Book_lefts (c : Cn) (E : XK) : TS :=
  (tSeq (tDrop (tMeth c.cBook "need" (sx_Book_need c) [] E (tVar 0) (tCons (tVar 1) tNil)))
  (tRet (tCB (kList c.K) (tCons (tOp (bIx c.P c.w c.K) (tOp (bIx c.P c.w c.K) (tFld c.K (tVar 0) "moves") (tVar 1)) (tC (.int 0))) tNil))))
def sp_Book_lefts (c : Cn) : Sp := fun vs H Q E => vs.length = 2 ∧ ∃ (b : Addr) (M : Addr → Prop) (gs : List Gm) (ds : List Int) (g : Nat) (gm : Gm), vs = [.ref b, .int g] ∧ BookAt c H b M gs ds ∧ gs[g]? = some gm ∧ ∀ p, H p = none → Q (.ref p) (upd H p (.lst (gm.1.map V.int)))
theorem p_Book_lefts {c : Cn} {mg : Str → Option Value} (T : Txt c mg) {vs : List V} {H : Hp} {Q : VK} {E : XK} (h : sp_Book_lefts c vs H Q E) : t_Book_lefts c E { nx := fun _ H' => Q .non H', rt := Q } (start N_Book_lefts vs) H := by
  obtain ⟨_, b, M, gs, ds, g, gm, rfl, B, hg, k⟩ := h
  obtain ⟨dx, mv, nm, dp, ts, xs, h1, h2, h3, h4, h5, h6, h7, m1, m2, m3, ne, h8⟩ := B.ex
  have hl := (List.getElem?_eq_some_iff.mp hg).1
  unfold t_Book_lefts
  repeat kaf_suf
  refine ⟨rfl, .inl ⟨rfl, b, M, gs, ds, g, rfl, B, by omega, by omega, ?_⟩⟩
  obtain ⟨t, ht, ka, kb, t1, t2, t3⟩ := paired_get h3 hg
  have hx : atI (ts.map V.ref) (g : Int) = some (V.ref t) := atI_get (n := g) (by rw [List.getElem?_map, ht]; rfl) rfl
  repeat kaf_suf
  exact k
def sy_Book_lefts (c : Cn) : Sp := fun vs H Q E => vs.length = 2 ∧ ∃ (b : Addr) (M : Addr → Prop) (gs : List Gm) (ds : List Int) (v : V), vs = [.ref b, v] ∧ BookAt c H b M gs ds ∧ BadV H gs.length v ∧ E (.ref c.cNoGame) none H
theorem q_Book_lefts {c : Cn} {mg : Str → Option Value} (T : Txt c mg) {vs : List V} {H : Hp} {Q : VK} {E : XK} (h : sy_Book_lefts c vs H Q E) : t_Book_lefts c E { nx := fun _ H' => Q .non H', rt := Q } (start N_Book_lefts vs) H := by
  obtain ⟨_, b, M, gs, ds, v, rfl, B, bd, k⟩ := h
  obtain ⟨dx, mv, nm, dp, hb⟩ := B.ins_
  unfold t_Book_lefts
  repeat kaf_suf
  exact ⟨rfl, .inr ⟨rfl, b, M, gs, ds, v, rfl, B, bd, k⟩⟩
def sx_Book_lefts (c : Cn) : Sp := fun vs H Q E => vs.length = 2 ∧ (sp_Book_lefts c vs H Q E ∨ sy_Book_lefts c vs H Q E)
theorem metx_Book_lefts {c : Cn} {mg : Str → Option Value} {base : Heap} (T : Txt c mg) : Met c.P c.w c.K mg base (L2.CX c.P c.w) 2 c.cBook "lefts" (sx_Book_lefts c) := by
  obtain ⟨f, fd, F, g, b⟩ := T.F_Book_lefts
  exact ⟨f, fd, ["self", "g"], T.cl_Book, g, F.okX (k := 1) (N := N_Book_lefts) sc_Book_lefts (fun vs H Q E h => h.1) (fun cdv A outer s H vs Q E hr h => ⟨t_Book_lefts c E, by
  exact (pss_cons (ps_expr (e_meth (metx_Book_need T) hr (by decide) (passes_call (takes_of rfl rfl rfl rfl) fun _ _ _ _ z => z) (pv 0) (pa_cons (pv 1) pa_nil)))
  (pss_one (ps_ret (pe_callTy (k_list rfl) (by rfl) T.n_list (by decide +kernel) (pa_cons (pe_ix (x_ix (hu64 hr)) (pe_ix (x_ix (hu64 hr)) (pe_fld (pv 0) rfl) (pv 1) (fun _ _ => rfl)) pe_int (fun _ _ => rfl)) pa_nil))))), h.2.elim (p_Book_lefts T) (q_Book_lefts T)⟩), b⟩
theorem met_Book_lefts {c : Cn} {mg : Str → Option Value} {base : Heap} (T : Txt c mg) : Met c.P c.w c.K mg base (L2.CX c.P c.w) 2 c.cBook "lefts" (sp_Book_lefts c) := by
  obtain ⟨f, fd, ps, cl, m, F, b⟩ := (metx_Book_lefts T).ex
  exact ⟨⟨f, fd, ps, cl, m, F.imp fun vs H Q E h => ⟨h.1, .inl h⟩, b⟩⟩
abbrev N_Book_rights : List Str := ["self", "g"]
theorem sc_Book_rights : FnScope N_Book_rights ["self", "g"] (defScope s_Book_rights) := ⟨rfl, rfl, rfl, by decide +kernel, rfl, by decide +kernel, by decide +kernel⟩
def t_Book_rights (c : Cn) (E : XK) : TS :=
  (tSeq (tDrop (tMeth c.cBook "need" (sx_Book_need c) [] E (tVar 0) (tCons (tVar 1) tNil)))
  (tRet (tCB (kList c.K) (tCons (tOp (bIx c.P c.w c.K) (tOp (bIx c.P c.w c.K) (tFld c.K (tVar 0) "moves") (tVar 1)) (tC (.int 1))) tNil))))
def sp_Book_rights (c : Cn) : Sp := fun vs H Q E => vs.length = 2 ∧ ∃ (b : Addr) (M : Addr → Prop) (gs : List Gm) (ds : List Int) (g : Nat) (gm : Gm), vs = [.ref b, .int g] ∧ BookAt c H b M gs ds ∧ gs[g]? = some gm ∧ ∀ p, H p = none → Q (.ref p) (upd H p (.lst (gm.2.map V.int)))
theorem p_Book_rights {c : Cn} {mg : Str → Option Value} (T : Txt c mg) {vs : List V} {H : Hp} {Q : VK} {E : XK} (h : sp_Book_rights c vs H Q E) : t_Book_rights c E { nx := fun _ H' => Q .non H', rt := Q } (start N_Book_rights vs) H := by
  obtain ⟨_, b, M, gs, ds, g, gm, rfl, B, hg, k⟩ := h
  obtain ⟨dx, mv, nm, dp, ts, xs, h1, h2, h3, h4, h5, h6, h7, m1, m2, m3, ne, h8⟩ := B.ex
  have hl := (List.getElem?_eq_some_iff.mp hg).1
  unfold t_Book_rights
  repeat kaf_suf
  refine ⟨rfl, .inl ⟨rfl, b, M, gs, ds, g, rfl, B, by omega, by omega, ?_⟩⟩
  obtain ⟨t, ht, ka, kb, t1, t2, t3⟩ := paired_get h3 hg
  have hx : atI (ts.map V.ref) (g : Int) = some (V.ref t) := atI_get (n := g) (by rw [List.getElem?_map, ht]; rfl) rfl
  repeat kaf_suf
  exact k
def sy_Book_rights (c : Cn) : Sp := fun vs H Q E => vs.length = 2 ∧ ∃ (b : Addr) (M : Addr → Prop) (gs : List Gm) (ds : List Int) (v : V), vs = [.ref b, v] ∧ BookAt c H b M gs ds ∧ BadV H gs.length v ∧ E (.ref c.cNoGame) none H
theorem q_Book_rights {c : Cn} {mg : Str → Option Value} (T : Txt c mg) {vs : List V} {H : Hp} {Q : VK} {E : XK} (h : sy_Book_rights c vs H Q E) : t_Book_rights c E { nx := fun _ H' => Q .non H', rt := Q } (start N_Book_rights vs) H := by
  obtain ⟨_, b, M, gs, ds, v, rfl, B, bd, k⟩ := h
  obtain ⟨dx, mv, nm, dp, hb⟩ := B.ins_
  unfold t_Book_rights
  repeat kaf_suf
  exact ⟨rfl, .inr ⟨rfl, b, M, gs, ds, v, rfl, B, bd, k⟩⟩
def sx_Book_rights (c : Cn) : Sp := fun vs H Q E => vs.length = 2 ∧ (sp_Book_rights c vs H Q E ∨ sy_Book_rights c vs H Q E)
theorem metx_Book_rights {c : Cn} {mg : Str → Option Value} {base : Heap} (T : Txt c mg) : Met c.P c.w c.K mg base (L2.CX c.P c.w) 2 c.cBook "rights" (sx_Book_rights c) := by
  obtain ⟨f, fd, F, g, b⟩ := T.F_Book_rights
  exact ⟨f, fd, ["self", "g"], T.cl_Book, g, F.okX (k := 1) (N := N_Book_rights) sc_Book_rights (fun vs H Q E h => h.1) (fun cdv A outer s H vs Q E hr h => ⟨t_Book_rights c E, by
  exact (pss_cons (ps_expr (e_meth (metx_Book_need T) hr (by decide) (passes_call (takes_of rfl rfl rfl rfl) fun _ _ _ _ z => z) (pv 0) (pa_cons (pv 1) pa_nil)))
  (pss_one (ps_ret (pe_callTy (k_list rfl) (by rfl) T.n_list (by decide +kernel) (pa_cons (pe_ix (x_ix (hu64 hr)) (pe_ix (x_ix (hu64 hr)) (pe_fld (pv 0) rfl) (pv 1) (fun _ _ => rfl)) pe_int (fun _ _ => rfl)) pa_nil))))), h.2.elim (p_Book_rights T) (q_Book_rights T)⟩), b⟩
theorem met_Book_rights {c : Cn} {mg : Str → Option Value} {base : Heap} (T : Txt c mg) : Met c.P c.w c.K mg base (L2.CX c.P c.w) 2 c.cBook "rights" (sp_Book_rights c) := by
  obtain ⟨f, fd, ps, cl, m, F, b⟩ := (metx_Book_rights T).ex
  exact ⟨⟨f, fd, ps, cl, m, F.imp fun vs H Q E h => ⟨h.1, .inl h⟩, b⟩⟩

/-! plain helpers -/
theorem any_eq {α : Type} {f g : α → Bool} : ∀ {l : List α}, (∀ m ∈ l, f m = g m) → l.any f = l.any g
  | [], _ => rfl
  | x :: r, h => by rw [List.any_cons, List.any_cons, h x List.mem_cons_self, any_eq fun m hm => h m (List.mem_cons_of_mem _ hm)]
def mvs (gs : List Gm) (g : Nat) (s : Bool) : List Int := match gs[g]? with
  | some x => if s then x.1 else x.2
  | none => []
theorem mvs_low {gs : List Gm} (o : GOk gs) {g : Nat} {s : Bool} {m : Int} (h : m ∈ mvs gs g s) : 0 ≤ m ∧ m < g ∧ g < gs.length := by
  unfold mvs at h
  cases e : gs[g]? with
  | none => rw [e] at h; simp at h
  | some x =>
    rw [e] at h
    have hl := (List.getElem?_eq_some_iff.mp e).1
    have := o.low g x e m (by
      cases s
      · simp at h; simp [h]
      · simp at h; simp [h])
    omega
theorem mvs_more {gs f : List Gm} {g : Nat} {s : Bool} (h : g < gs.length) : mvs (gs ++ f) g s = mvs gs g s := by
  unfold mvs; rw [List.getElem?_append_left h]
theorem nodup_le {α : Type} [DecidableEq α] : ∀ (l m : List α), l.Nodup → (∀ x ∈ l, x ∈ m) → l.length ≤ m.length
  | [], _, _, _ => Nat.zero_le _
  | x :: l, m, nd, h => by
    have nd' := List.nodup_cons.mp nd
    have hx := h x List.mem_cons_self
    have := nodup_le l (m.erase x) nd'.2 fun y hy => by
      have hm := h y (List.mem_cons_of_mem _ hy)
      exact (List.mem_erase_of_ne (fun (e : y = x) => nd'.1 (by rw [← e]; exact hy))).mpr hm
    rw [List.length_erase_of_mem hx] at this
    have := List.length_pos_of_mem hx
    simp only [List.length_cons]; omega
theorem nval_nput {xs : List NX} {k : NestedKey} {a : Addr} {v : V} : nval (nput xs k a v) k = some v := by
  unfold nput
  split
  · rename_i h
    clear a
    have go : ∀ xs : List NX, (nval xs k).isSome = true → nval (xs.map fun x => if x.1 = k then (x.1, x.2.1, v) else x) k = some v := fun xs => by
      unfold nval
      induction xs with
      | nil => intro h; simp at h
      | cons p q ih =>
        intro h
        rw [List.map_cons]
        by_cases e : p.1 = k
        · rw [if_pos e, List.find?_cons_of_pos (by simp [e])]; rfl
        · rw [if_neg e, List.find?_cons_of_neg (by simp [e])]
          rw [List.find?_cons_of_neg (by simp [e])] at h
          exact ih h
    exact go xs h
  · rename_i h
    rw [nval_snoc]
    have : nval xs k = none := by
      cases e : nval xs k with
      | none => rfl
      | some v => rw [e] at h; simp at h
    rw [this]; simp
theorem nval_mem {xs : List NX} {k : NestedKey} {v : V} (h : nval xs k = some v) : ∃ x ∈ xs, x.1 = k ∧ x.2.2 = v := by
  unfold nval at h
  obtain ⟨x, hx, rfl⟩ := Option.map_eq_some_iff.mp h
  exact ⟨x, List.mem_of_find?_eq_some hx, by simpa using List.find?_some hx, rfl⟩
theorem nval_none {xs : List NX} {k : NestedKey} (h : nval xs k = none) : ∀ x ∈ xs, x.1 ≠ k := fun x hx e => by
  unfold nval at h
  rw [Option.map_eq_none_iff] at h
  have := List.find?_eq_none.mp h x hx
  simp [e] at this
theorem any_filter {α : Type} [DecidableEq α] {p : α → Bool} : ∀ (l : List α), l.any p = !decide (l.filter p = [])
  | [] => by simp
  | x :: r => by
    by_cases h : p x = true
    · simp [h]
    · simp only [Bool.not_eq_true] at h
      rw [List.any_cons, h, Bool.false_or, any_filter r]
      simp [List.filter_cons, h]
theorem BookAt.keepX {c : Cn} {H H' : Hp} {b : Addr} {M N : Addr → Prop} {gs : List Gm} {ds : List Int} (B : BookAt c H b M gs ds) (k : Keep N H H') (n : ∀ x, N x → ∃ φ, H x = some (.ext φ)) (d : ∀ x, M x → ¬ N x) : BookAt c H' b M gs ds := by
  obtain ⟨dx, mv, nm, dp, ts, xs, h1, h2, h3, h4, h5, h6, h7, m1, m2, m3, ne, h8⟩ := B.ex
  have kt : ∀ q ys, H q = some (.tup ys) → H' q = some (.tup ys) := fun q ys e => k _ _ (fun z => by obtain ⟨l, e'⟩ := n q z; rw [e] at e'; cases e') e
  refine ⟨B.ok, B.dok, dx, mv, nm, dp, ts, xs, k _ _ (fun z => ?_) h1, k _ _ (d _ m1) h2, paired_keep h3 fun t g q => q.keep kt, ⟨k _ _ (d _ m2) h4.here, fun x hx => ⟨NkV.keeps kt _ _ (h4.keys x hx).1, (h4.keys x hx).2⟩⟩, h5, h6, k _ _ (d _ m3) h7, m1, m2, m3, ne, h8⟩
  obtain ⟨l, e'⟩ := n b z; rw [h1] at e'; cases e'
theorem v_setN' {P : Program} {w : World} {H : Hp} {Q : Hp → Prop} {p a : Addr} {k : NestedKey} {xs : List NX} {v : V} (N : NdAt P w H a xs) (kp : NkV H k (.ref p)) (d : k.depth ≤ 8) (l : xs.length < sizeLine) (q : Q (upd H a (NdO P w a (nput xs k p v)))) : bSet P w (.ref a) (.ref p) v H Q := v_setN N kp d l q
theorem BookAt.keepY {c : Cn} {H H' : Hp} {b : Addr} {M N : Addr → Prop} {gs : List Gm} {ds : List Int} (B : BookAt c H b M gs ds) (k : Keep N H H') (n : ∀ x, N x → (∀ l, H x ≠ some (.tup l)) ∧ ∀ C d l, H x ≠ some (.ins C d l)) (d : ∀ x, M x → ¬ N x) : BookAt c H' b M gs ds := by
  obtain ⟨dx, mv, nm, dp, ts, xs, h1, h2, h3, h4, h5, h6, h7, m1, m2, m3, ne, h8⟩ := B.ex
  have kt : ∀ q ys, H q = some (.tup ys) → H' q = some (.tup ys) := fun q ys e => k _ _ (fun z => (n q z).1 _ e) e
  exact ⟨B.ok, B.dok, dx, mv, nm, dp, ts, xs, k _ _ (fun z => (n b z).2 _ _ _ h1) h1, k _ _ (d _ m1) h2, paired_keep h3 fun t g q => q.keep kt, ⟨k _ _ (d _ m2) h4.here, fun x hx => ⟨NkV.keeps kt _ _ (h4.keys x hx).1, (h4.keys x hx).2⟩⟩, h5, h6, k _ _ (d _ m3) h7, m1, m2, m3, ne, h8⟩
abbrev KX := Key × V
theorem valV_mem {kvs : List KX} {k : Key} {v : V} (h : valV kvs k = some v) : ∃ x ∈ kvs, x.1 = k ∧ x.2 = v := by
  unfold valV at h
  obtain ⟨x, hx, rfl⟩ := Option.map_eq_some_iff.mp h
  exact ⟨x, List.mem_of_find?_eq_some hx, by simpa using List.find?_some hx, rfl⟩
theorem valV_none {kvs : List KX} {k : Key} (h : valV kvs k = none) : ∀ x ∈ kvs, x.1 ≠ k := fun x hx e => by
  unfold valV at h
  rw [Option.map_eq_none_iff] at h
  have := List.find?_eq_none.mp h x hx
  simp [e] at this
theorem putK_new {kvs : List KX} {k : Key} {v : V} (h : valV kvs k = none) : putK kvs k v = kvs ++ [(k, v)] := by
  unfold putK
  rw [if_neg]
  intro z
  obtain ⟨x, hx, e⟩ := List.any_eq_true.mp z
  exact valV_none h x hx (by simpa using e)
theorem putK_val {kvs : List KX} {k : Key} {v : V} : valV (putK kvs k v) k = some v := by
  unfold putK
  split
  · rename_i h
    induction kvs with
    | nil => simp at h
    | cons p q ih =>
      rw [List.map_cons]
      by_cases e : p.1 = k
      · rw [if_pos e]; exact valV_pos e
      · rw [if_neg e, valV_neg e]
        exact ih (by simpa [e] using h)
  · rename_i h
    unfold valV
    rw [List.find?_append]
    have : kvs.find? (fun kv => decide (kv.1 = k)) = none := List.find?_eq_none.mpr fun x hx z => h (List.any_eq_true.mpr ⟨x, hx, z⟩)
    rw [this]; simp
theorem putK_len {kvs : List KX} {k : Key} {v : V} : kvs.length ≤ (putK kvs k v).length := by
  unfold putK; split <;> simp
theorem addG_grow {gs : List Gm} {k : Gm} : ∃ f, addG gs k = gs ++ f ∧ f.length ≤ 1 ∧ (k ∈ gs → f = []) := by
  unfold addG; split
  · exact ⟨[], by simp, by simp, fun _ => rfl⟩
  · rename_i h
    exact ⟨[k], rfl, by simp, fun z => absurd z h⟩
theorem DOk.move {gs : List Gm} {ds : List Int} (o : GOk gs) (d : DOk gs ds) {g : Nat} {gm : Gm} {dg : Int} (hg : gs[g]? = some gm) (hd : ds[g]? = some dg) {m : Int} (hm : m ∈ gm.1 ++ gm.2) : ∃ dm, ds[m.toNat]? = some dm ∧ dm + 1 ≤ dg := by
  have low := o.low g gm hg m hm
  have lg := (List.getElem?_eq_some_iff.mp hg).1
  have dl := d.len
  obtain ⟨v, hv⟩ : ∃ v, ds[m.toNat]? = some v := ⟨_, List.getElem?_eq_getElem (by omega)⟩
  refine ⟨v, hv, (d.at_ g gm dg hg hd).2.1 v ?_⟩
  unfold dps
  exact List.mem_map.mpr ⟨m, hm, by rw [hv]; rfl⟩
theorem DOk.le {gs : List Gm} {ds : List Int} (o : GOk gs) (d : DOk gs ds) : ∀ (n g : Nat), g < n → ∀ dg, ds[g]? = some dg → dg ≤ g
  | 0, _, h, _, _ => by omega
  | n + 1, g, h, dg, hd => by
    have hl := (List.getElem?_eq_some_iff.mp hd).1
    obtain ⟨gm, hg⟩ : ∃ x, gs[g]? = some x := ⟨_, List.getElem?_eq_getElem (by have := d.len; omega)⟩
    obtain ⟨p1, p2, p3⟩ := d.at_ g gm dg hg hd
    by_cases z : gm.1 ++ gm.2 = []
    · have := p1 z; omega
    · obtain ⟨u, hu, eu⟩ := p3 z
      obtain ⟨m, hm, em⟩ := List.mem_map.mp hu
      have low := o.low g gm hg m hm
      obtain ⟨v, hv⟩ : ∃ v, ds[m.toNat]? = some v := ⟨_, List.getElem?_eq_getElem (by have := d.len; omega)⟩
      have := DOk.le o d n m.toNat (by omega) v hv
      rw [hv] at em
      have em' : v = u := em
      omega
theorem mvs_dep {gs : List Gm} {ds : List Int} (o : GOk gs) (d : DOk gs ds) {g : Nat} {s : Bool} {m : Int} (h : m ∈ mvs gs g s) {dg : Int} (hd : ds[g]? = some dg) : ∃ dm, ds[m.toNat]? = some dm ∧ dm + 1 ≤ dg := by
  obtain ⟨m0, m1, m2⟩ := mvs_low o h
  have e := List.getElem?_eq_getElem m2
  refine d.move o e hd ?_
  unfold mvs at h; rw [e] at h
  cases s
  · exact List.mem_append_right _ (by simpa using h)
  · exact List.mem_append_left _ (by simpa using h)

local macro_rules | `(tactic| kaf_suf) => `(tactic| first
  | with_reducible refine r_gcons ?_
  | with_reducible refine r_gnil ?_
  | ((with_reducible refine' r_seqT ?a ?b ?_); (case a => (kaf_pre; done)); (case b => rfl))
  | ((with_reducible refine' r_seqL ?a ?b ?_); (case a => (kaf_pre; done)); (case b => rfl)))

local macro_rules | `(tactic| kaf_suf) => `(tactic| first
  | with_reducible refine v_inS ?_
  | with_reducible refine v_ninS ?_
  | with_reducible refine v_ltS ?_
  | ((with_reducible refine' v_addS ?a ?_); (case a => first | assumption | omega))
  | ((with_reducible refine' v_lenStr ?a ?_); (case a => first | assumption | omega))
  | ((with_reducible refine' v_listS ?a ?_); (case a => first | assumption | omega))
  | ((with_reducible refine' v_ixS ?a ?b ?_); (case a => (first | assumption | rfl)); (case b => first | assumption | omega))
  | with_reducible refine v_countS ?_
  | with_reducible refine r_kbm_s ?_)

/-! texts of games: the plain law -/
theorem ltCps_eq : ∀ a b : List Nat, PySem.Spec.ltCps a b = decide (a < b)
  | [], [] => by simp [PySem.Spec.ltCps]
  | [], _ :: _ => by simp [PySem.Spec.ltCps]
  | _ :: _, [] => by simp [PySem.Spec.ltCps]
  | a :: r, b :: t => by
    simp only [PySem.Spec.ltCps, ltCps_eq r t, List.cons_lt_cons_iff]
    by_cases h : a < b <;> by_cases h' : a = b <;> simp [h, h']
abbrev Tx := List Nat
def insT (x : Tx) : List Tx → List Tx
  | [] => [x]
  | y :: r => if x = y then y :: r else if x < y then x :: y :: r else y :: insT x r
def canonT : List Tx → List Tx
  | [] => []
  | x :: r => insT x (canonT r)
theorem insT_mem {x z : Tx} : ∀ {l : List Tx}, z ∈ insT x l ↔ z = x ∨ z ∈ l
  | [] => by simp [insT]
  | y :: r => by
    unfold insT
    split
    · rename_i e; subst e; simp
    · split
      · simp
      · rw [List.mem_cons, insT_mem (l := r), List.mem_cons]
        constructor
        · rintro (h | h | h)
          · exact .inr (.inl h)
          · exact .inl h
          · exact .inr (.inr h)
        · rintro (h | h | h)
          · exact .inr (.inl h)
          · exact .inl h
          · exact .inr (.inr h)
theorem canonT_mem {z : Tx} : ∀ {l : List Tx}, z ∈ canonT l ↔ z ∈ l
  | [] => Iff.rfl
  | x :: r => by
    show z ∈ insT x (canonT r) ↔ _
    rw [insT_mem, canonT_mem (l := r), List.mem_cons]
theorem tx_tri {a b : Tx} (h1 : ¬ a = b) (h2 : ¬ a < b) : b < a := by
  rcases List.le_iff_lt_or_eq.mp (List.not_lt.mp h2) with h | h
  · exact h
  · exact absurd h.symm h1
theorem insT_up {x : Tx} : ∀ {l : List Tx}, l.Pairwise (· < ·) → (insT x l).Pairwise (· < ·)
  | [], _ => List.pairwise_singleton ..
  | y :: r, h => by
    obtain ⟨h1, h2⟩ := List.pairwise_cons.mp h
    unfold insT
    split
    · exact h
    · rename_i n
      split
      · rename_i lt
        refine List.pairwise_cons.mpr ⟨fun z hz => ?_, h⟩
        rcases List.mem_cons.mp hz with rfl | hz
        · exact lt
        · exact List.lt_trans lt (h1 z hz)
      · rename_i nl
        refine List.pairwise_cons.mpr ⟨fun z hz => ?_, insT_up h2⟩
        rcases insT_mem.mp hz with rfl | hz
        · exact tx_tri n nl
        · exact h1 z hz
theorem canonT_up : ∀ (l : List Tx), (canonT l).Pairwise (· < ·)
  | [] => .nil
  | x :: r => insT_up (canonT_up r)
theorem upT_eq : ∀ {a b : List Tx}, a.Pairwise (· < ·) → b.Pairwise (· < ·) → (∀ z, z ∈ a ↔ z ∈ b) → a = b
  | [], [], _, _, _ => rfl
  | [], y :: s, _, _, h => absurd ((h y).mpr List.mem_cons_self) List.not_mem_nil
  | x :: r, [], _, _, h => absurd ((h x).mp List.mem_cons_self) List.not_mem_nil
  | x :: r, y :: s, ha, hb, h => by
    obtain ⟨a1, a2⟩ := List.pairwise_cons.mp ha
    obtain ⟨b1, b2⟩ := List.pairwise_cons.mp hb
    have e : x = y := by
      rcases List.mem_cons.mp ((h x).mp List.mem_cons_self) with e | e
      · exact e
      · rcases List.mem_cons.mp ((h y).mpr List.mem_cons_self) with e' | e'
        · exact e'.symm
        · exact absurd (List.lt_trans (a1 y e') (b1 x e)) (List.lt_irrefl _)
    subst e
    rw [upT_eq a2 b2 fun z => ?_]
    constructor
    · intro hz
      rcases List.mem_cons.mp ((h z).mp (List.mem_cons_of_mem _ hz)) with e | e
      · subst e; exact absurd (a1 z hz) (List.lt_irrefl _)
      · exact e
    · intro hz
      rcases List.mem_cons.mp ((h z).mpr (List.mem_cons_of_mem _ hz)) with e | e
      · subst e; exact absurd (b1 z hz) (List.lt_irrefl _)
      · exact e
theorem canonT_congr {a b : List Tx} (h : ∀ z, z ∈ a ↔ z ∈ b) : canonT a = canonT b := upT_eq (canonT_up a) (canonT_up b) fun z => by rw [canonT_mem, canonT_mem, h]
theorem insT_len {x : Tx} : ∀ {l : List Tx}, (insT x l).length ≤ l.length + 1
  | [] => Nat.le_refl _
  | y :: r => by
    have := insT_len (x := x) (l := r)
    unfold insT
    split
    · rw [List.length_cons]; omega
    · split
      · simp only [List.length_cons]; omega
      · simp only [List.length_cons]; omega
theorem canonT_len : ∀ {l : List Tx}, (canonT l).length ≤ l.length
  | [] => Nat.le_refl _
  | x :: r => by
    have := insT_len (x := x) (l := canonT r)
    have := canonT_len (l := r)
    show (insT x (canonT r)).length ≤ _
    rw [List.length_cons]; omega
theorem insT_sum {x : Tx} : ∀ {l : List Tx}, ((insT x l).map (·.length + 1)).sum ≤ (l.map (·.length + 1)).sum + (x.length + 1)
  | [] => by simp [insT]
  | y :: r => by
    have := insT_sum (x := x) (l := r)
    unfold insT
    split
    · simp only [List.map_cons, List.sum_cons]; omega
    · split
      · simp only [List.map_cons, List.sum_cons]; omega
      · simp only [List.map_cons, List.sum_cons]; omega
theorem canonT_sum : ∀ {l : List Tx}, ((canonT l).map (·.length + 1)).sum ≤ (l.map (·.length + 1)).sum
  | [] => Nat.le_refl _
  | x :: r => by
    have := insT_sum (x := x) (l := canonT r)
    have := canonT_sum (l := r)
    show ((insT x (canonT r)).map (·.length + 1)).sum ≤ _
    simp only [List.map_cons, List.sum_cons]; omega
/-- joined by commas -/
def jc (l : List Tx) : Tx := TL.joinL [44] l
theorem jc_cons (x y : Tx) (r : List Tx) : jc (x :: y :: r) = x ++ 44 :: jc (y :: r) := rfl
theorem jc_len : ∀ {l : List Tx}, (jc l).length ≤ (l.map (·.length + 1)).sum
  | [] => Nat.le_refl _
  | [x] => by show x.length ≤ _; simp
  | x :: y :: r => by
    have := jc_len (l := y :: r)
    rw [jc_cons, List.length_append, List.length_cons]
    simp only [List.map_cons, List.sum_cons] at this ⊢
    omega
def wr (a b : List Tx) : Tx := 123 :: (jc a ++ 124 :: (jc b ++ [125]))
/-- prefix-free texts keep so when joined -/
theorem jc_pf {e : Nat} (ne : e ≠ 44) : ∀ {X Y : List Tx} {r s : Tx}, (∀ x ∈ X ++ Y, ∀ r, x ++ r ≠ [] ∧ ∀ s, x ++ r ≠ e :: s) → (∀ x ∈ X, ∀ y ∈ Y, ∀ r s, x ++ r = y ++ s → x = y ∧ r = s) → jc X ++ e :: r = jc Y ++ e :: s → X = Y ∧ r = s
  | [], [], r, s, _, _, h => ⟨rfl, by injection h⟩
  | [], y :: Y, r, s, h0, _, h => by
    cases Y with
    | nil => exact absurd h.symm ((h0 y (by simp) _).2 _)
    | cons y' Y =>
      rw [jc_cons, List.append_assoc] at h
      exact absurd h.symm ((h0 y (by simp) _).2 _)
  | x :: X, [], r, s, h0, _, h => by
    cases X with
    | nil => exact absurd h ((h0 x (by simp) _).2 _)
    | cons x' X =>
      rw [jc_cons, List.append_assoc] at h
      exact absurd h ((h0 x (by simp) _).2 _)
  | [x], [y], r, s, h0, pf, h => by
    obtain ⟨rfl, h2⟩ := pf x (by simp) y (by simp) _ _ h
    exact ⟨rfl, by injection h2⟩
  | [x], y :: y' :: Y, r, s, h0, pf, h => by
    rw [jc_cons, List.append_assoc] at h
    obtain ⟨rfl, h2⟩ := pf x (by simp) y (by simp) _ _ h
    injection h2 with h2 _
    exact absurd h2 ne
  | x :: x' :: X, [y], r, s, h0, pf, h => by
    rw [jc_cons, List.append_assoc] at h
    obtain ⟨rfl, h2⟩ := pf x (by simp) y (by simp) _ _ h
    injection h2 with h2 _
    exact absurd h2.symm ne
  | x :: x' :: X, y :: y' :: Y, r, s, h0, pf, h => by
    rw [jc_cons, jc_cons, List.append_assoc, List.append_assoc] at h
    obtain ⟨rfl, h2⟩ := pf x (by simp) y (by simp) _ _ h
    injection h2 with _ h2
    obtain ⟨h3, h4⟩ := jc_pf ne (X := x' :: X) (Y := y' :: Y) (fun z hz => h0 z (by
      rcases List.mem_append.mp hz with hz | hz
      · exact List.mem_append_left _ (List.mem_cons_of_mem _ hz)
      · exact List.mem_append_right _ (List.mem_cons_of_mem _ hz))) (fun a ha b hb => pf a (List.mem_cons_of_mem _ ha) b (List.mem_cons_of_mem _ hb)) h2
    exact ⟨by rw [h3], h4⟩
/-- a game's text -/
def txt (gs : List Gm) : Nat → Nat → Tx
  | 0, _ => [48]
  | n + 1, g => if g = 0 then [48] else wr (canonT ((mvs gs g true).map fun z => txt gs n z.toNat)) (canonT ((mvs gs g false).map fun z => txt gs n z.toNat))
def tx (gs : List Gm) (g : Nat) : Tx := txt gs (g + 1) g
theorem mvs_lo {gs : List Gm} (o : GOk gs) {g : Nat} (hg : g < gs.length) {s : Bool} {z : Int} (hz : z ∈ mvs gs g s) : 0 ≤ z ∧ z < g := ⟨(mvs_low o hz).1, (mvs_low o hz).2.1⟩
theorem txt_any {gs : List Gm} (o : GOk gs) : ∀ {n m g : Nat}, g < gs.length → g < n → g < m → txt gs n g = txt gs m g
  | n + 1, m + 1, g, hg, hn, hm => by
    unfold txt
    split
    · rfl
    · have e : ∀ s, (mvs gs g s).map (fun z => txt gs n z.toNat) = (mvs gs g s).map fun z => txt gs m z.toNat := fun s => List.map_congr_left fun z hz => by
        have := mvs_lo o hg hz
        exact txt_any o (by omega) (by omega) (by omega)
      rw [e true, e false]
theorem tx_zero {gs : List Gm} : tx gs 0 = [48] := rfl
theorem tx_eq {gs : List Gm} (o : GOk gs) {g : Nat} (hg : g < gs.length) (n : g ≠ 0) : tx gs g = wr (canonT ((mvs gs g true).map fun z => tx gs z.toNat)) (canonT ((mvs gs g false).map fun z => tx gs z.toNat)) := by
  show txt gs (g + 1) g = _
  unfold txt
  rw [if_neg n]
  have e : ∀ s, (mvs gs g s).map (fun z => txt gs g z.toNat) = (mvs gs g s).map fun z => tx gs z.toNat := fun s => List.map_congr_left fun z hz => by
    have := mvs_lo o hg hz
    exact txt_any o (by omega) (by omega) (by omega)
  rw [e true, e false]
theorem tx_head {gs : List Gm} (o : GOk gs) {g : Nat} (hg : g < gs.length) : ∃ c r, tx gs g = c :: r ∧ (c = 48 ∨ c = 123) := by
  by_cases n : g = 0
  · subst n; exact ⟨48, [], rfl, .inl rfl⟩
  · rw [tx_eq o hg n]; exact ⟨123, _, rfl, .inr rfl⟩
theorem tx_pf {gs : List Gm} (o : GOk gs) : ∀ (k g : Nat), g < k → g < gs.length → ∀ h, h < gs.length → ∀ r s, tx gs g ++ r = tx gs h ++ s → g = h ∧ r = s
  | 0, _, hk => by omega
  | k + 1, g, hk => fun hg h hh r s e => by
    by_cases g0 : g = 0
    · subst g0
      by_cases h0 : h = 0
      · subst h0
        exact ⟨rfl, List.append_cancel_left e⟩
      · rw [tx_eq o hh h0, tx_zero] at e
        injection e with e _
        cases e
    · by_cases h0 : h = 0
      · subst h0
        rw [tx_eq o hg g0, tx_zero] at e
        injection e with e _
        cases e
      · rw [tx_eq o hg g0, tx_eq o hh h0] at e
        unfold wr at e
        simp only [List.append_assoc, List.cons_append, List.cons.injEq, true_and] at e
        have el : ∀ {u : Nat}, u < gs.length → ∀ {s : Bool} {x : Tx}, x ∈ canonT ((mvs gs u s).map fun z => tx gs z.toNat) → ∃ z : Nat, (z : Int) ∈ mvs gs u s ∧ z < u ∧ tx gs z = x := fun hu s x hx => by
          obtain ⟨z, hz, rfl⟩ := List.mem_map.mp (canonT_mem.mp hx)
          have := mvs_lo o hu hz
          exact ⟨z.toNat, by rw [Int.toNat_of_nonneg this.1]; exact hz, by omega, rfl⟩
        have nn : ∀ {u : Nat}, u < gs.length → ∀ {s : Bool} {x : Tx} {e : Nat}, e = 124 ∨ e = 125 → x ∈ canonT ((mvs gs u s).map fun z => tx gs z.toNat) → ∀ r, x ++ r ≠ [] ∧ ∀ s, x ++ r ≠ e :: s := fun hu s x e he hx r => by
          obtain ⟨z, _, hz, rfl⟩ := el hu hx
          obtain ⟨c, q, ec, hc⟩ := tx_head o (show z < gs.length by omega)
          rw [ec]
          refine ⟨by simp, fun s hs => ?_⟩
          injection hs with hs _
          omega
        have pf : ∀ (s : Bool), ∀ x ∈ canonT ((mvs gs g s).map fun z => tx gs z.toNat), ∀ y ∈ canonT ((mvs gs h s).map fun z => tx gs z.toNat), ∀ r s, x ++ r = y ++ s → x = y ∧ r = s := fun s x hx y hy r t e => by
          obtain ⟨z, _, hz, rfl⟩ := el hg hx
          obtain ⟨w, _, hw, rfl⟩ := el hh hy
          obtain ⟨e1, e2⟩ := tx_pf o k z (by omega) (by omega) w (by omega) r t e
          exact ⟨by rw [e1], e2⟩
        obtain ⟨e1, e⟩ := jc_pf (by decide) (fun x hx => (List.mem_append.mp hx).elim (nn hg (.inl rfl)) (nn hh (.inl rfl))) (pf true) e
        obtain ⟨e2, e⟩ := jc_pf (by decide) (fun x hx => (List.mem_append.mp hx).elim (nn hg (.inr rfl)) (nn hh (.inr rfl))) (pf false) e
        refine ⟨?_, by simpa using e⟩
        have same : ∀ (s : Bool), canonT ((mvs gs g s).map fun z => tx gs z.toNat) = canonT ((mvs gs h s).map fun z => tx gs z.toNat) → ∀ z, z ∈ mvs gs g s ↔ z ∈ mvs gs h s := fun s q z => by
          constructor
          · intro hz
            have l := mvs_lo o hg hz
            obtain ⟨w, hw, lw, ew⟩ := el hh (q ▸ canonT_mem.mpr (List.mem_map.mpr ⟨z, hz, rfl⟩))
            obtain ⟨e1, _⟩ := tx_pf o k z.toNat (by omega) (by omega) w (by omega) [] [] (by rw [ew])
            have : z = (w : Int) := by omega
            rw [this]; exact hw
          · intro hz
            have l := mvs_lo o hh hz
            obtain ⟨w, hw, lw, ew⟩ := el hg (q.symm ▸ canonT_mem.mpr (List.mem_map.mpr ⟨z, hz, rfl⟩))
            obtain ⟨e1, _⟩ := tx_pf o k w (by omega) (by omega) z.toNat (by omega) [] [] (by rw [ew])
            have : z = (w : Int) := by omega
            rw [this]; exact hw
        have eg : gs[g]? = some gs[g] := List.getElem?_eq_getElem hg
        have eh : gs[h]? = some gs[h] := List.getElem?_eq_getElem hh
        have ug := o.up gs[g] (List.getElem_mem hg)
        have uh := o.up gs[h] (List.getElem_mem hh)
        have s1 := same true e1
        have s2 := same false e2
        unfold mvs at s1 s2
        rw [eg, eh] at s1 s2
        have : gs[g] = gs[h] := Prod.ext (up_eq ug.1 uh.1 s1) (up_eq ug.2 uh.2 s2)
        exact (List.getElem_inj o.nd).mp this
theorem tx_inj {gs : List Gm} (o : GOk gs) {g h : Nat} (hg : g < gs.length) (hh : h < gs.length) (e : tx gs g = tx gs h) : g = h := (tx_pf o (g + 1) g (by omega) hg h hh [] [] (by rw [e])).1
theorem up_of_sorted : ∀ {l : List Tx}, PyProof.Rows.sortedS (l.map tS) = true → l.Nodup → l.Pairwise (· < ·) := by
  have go : ∀ (l : List Tx) (p : Tx), PyProof.Rows.risingS (tS p) (l.map tS) = true → (p :: l).Nodup → (p :: l).Pairwise (· < ·) := by
    intro l
    induction l with
    | nil => intro p _ _; exact List.pairwise_singleton ..
    | cons x r ih =>
      intro p h n
      have h : (!PySem.Spec.ltCps x p && PyProof.Rows.risingS (tS x) (r.map tS)) = true := h
      rw [Bool.and_eq_true, ltCps_eq] at h
      obtain ⟨h1, h2⟩ := h
      obtain ⟨n1, n2⟩ := List.nodup_cons.mp n
      have ihx := ih x h2 n2
      have lt : p < x := tx_tri (fun e => n1 (e ▸ List.mem_cons_self)) (by simpa using h1)
      refine List.pairwise_cons.mpr ⟨fun y hy => ?_, ihx⟩
      rcases List.mem_cons.mp hy with rfl | hy
      · exact lt
      · exact List.lt_trans lt ((List.pairwise_cons.mp ihx).1 y hy)
  intro l h n
  cases l with
  | nil => exact .nil
  | cons x r => exact go r x h n
theorem sorted_canon {l : List Tx} {ys : List Str} (p : ys.Perm (l.map tS)) (s : PyProof.Rows.sortedS ys = true) (n : l.Nodup) : ys = (canonT l).map tS := by
  obtain ⟨ms, rfl⟩ : ∃ ms : List Tx, ys = ms.map tS := ⟨ys.map fun z => z.cps.toList, by
    rw [List.map_map]
    exact (List.map_id ys).symm.trans (List.map_congr_left fun z _ => rfl)⟩
  have mem : ∀ z, z ∈ ms ↔ z ∈ l := fun z => by
    have h := p.mem_iff (a := tS z)
    rw [List.mem_map, List.mem_map] at h
    constructor
    · intro hz
      obtain ⟨y, hy, e⟩ := h.mp ⟨z, hz, rfl⟩
      exact tS_inj e ▸ hy
    · intro hz
      obtain ⟨y, hy, e⟩ := h.mpr ⟨z, hz, rfl⟩
      exact tS_inj e ▸ hy
  have nd : ms.Nodup := by
    have h : (ms.map tS).Nodup := p.nodup_iff.mpr (List.pairwise_map.mpr (n.imp fun h e => h (tS_inj e)))
    exact (List.pairwise_map.mp h).imp fun h e => h (by rw [e])
  rw [upT_eq (up_of_sorted s nd) (canonT_up l) fun z => by rw [mem, canonT_mem]]

/-! the law's own texts -/
theorem ins_at {x : Tx} : ∀ {l : List Tx}, l.Pairwise (· < ·) → x ∉ l → l.take (l.filter fun y => decide (y < x)).length ++ [x] ++ l.drop (l.filter fun y => decide (y < x)).length = insT x l
  | [], _, _ => rfl
  | y :: r, h, n => by
    obtain ⟨h1, h2⟩ := List.pairwise_cons.mp h
    have ne : x ≠ y := fun e => n (e ▸ List.mem_cons_self)
    unfold insT
    rw [if_neg ne]
    by_cases lt : x < y
    · rw [if_pos lt]
      have : ((y :: r).filter fun z => decide (z < x)) = [] := List.filter_eq_nil_iff.mpr fun z hz => by
        rw [decide_eq_true_eq]
        intro zx
        rcases List.mem_cons.mp hz with rfl | hz
        · exact absurd (List.lt_trans lt zx) (List.lt_irrefl _)
        · exact absurd (List.lt_trans (List.lt_trans lt (h1 z hz)) zx) (List.lt_irrefl _)
      rw [this]
      rfl
    · rw [if_neg lt]
      have yx : y < x := tx_tri (fun e => ne e) lt
      rw [List.filter_cons, if_pos (decide_eq_true yx), List.length_cons, List.take_succ_cons, List.drop_succ_cons, ← ins_at h2 fun m => n (List.mem_cons_of_mem _ m)]
      rfl
theorem filter_take {α : Type} {p : α → Bool} {l : List α} {i : Nat} {x : α} (h : l[i]? = some x) : ((l.take (i + 1)).filter p).length = ((l.take i).filter p).length + (if p x = true then 1 else 0) := by
  rw [List.take_succ, h, List.filter_append, List.length_append]
  cases e : p x <;> simp [e]
theorem tS_app (a b : List Nat) : tS a ++ tS b = tS (a ++ b) := by
  show (⟨a.toArray ++ b.toArray⟩ : Str) = ⟨(a ++ b).toArray⟩
  rw [List.append_toArray]
theorem jc_bound {l : List Tx} (h : ∀ x ∈ l, x.length ≤ 9000) (n : l.length ≤ 16) : (l.map (·.length + 1)).sum ≤ 150000 := by
  have : ∀ (k : Nat) (l : List Tx), l.length ≤ k → (∀ x ∈ l, x.length ≤ 9000) → (l.map (·.length + 1)).sum ≤ 9001 * k := by
    intro k
    induction k with
    | zero => intro l h _; cases l with
      | nil => simp
      | cons _ _ => simp at h
    | succ k ih =>
      intro l h1 h2
      cases l with
      | nil => simp
      | cons x r =>
        have := ih r (by simpa using h1) fun y hy => h2 y (List.mem_cons_of_mem _ hy)
        have := h2 x List.mem_cons_self
        simp only [List.map_cons, List.sum_cons]
        omega
  have := this 16 l n h
  omega
theorem jc_str (l : List Tx) : Txt.join "," (l.map tS) = tS (jc l) := SX.join_S [44] l
theorem sum_app {l : List Tx} {k : Nat} : ((l.map tS).map (·.length)).sum + (l.map tS).length * k ≤ (l.map (·.length + 1)).sum + l.length * k := by
  rw [List.length_map, List.map_map]
  have : (l.map ((fun x : Str => x.length) ∘ tS)).sum ≤ (l.map (·.length + 1)).sum := by
    induction l with
    | nil => exact Nat.le_refl _
    | cons a r ih =>
      simp only [List.map_cons, List.sum_cons, Function.comp, tS_len]
      omega
  omega
abbrev N_law_unlike : List Str := ["texts", "found", "one", "at", "other"]
theorem sc_law_unlike : FnScope N_law_unlike ["texts"] (defScope s_law_unlike) := ⟨rfl, rfl, rfl, by decide +kernel, rfl, by decide +kernel, by decide +kernel⟩
def t_law_unlike (c : Cn) : TS :=
  (tSeq (tAsg (tLst tNil) (gName 1))
  (tSeq (tFor (iAny c.K (tVar 0)) (gName 2)
  (tSeq (tAsg (tC (.int 0)) (gName 3))
  (tSeq (tFor (iAny c.K (tVar 1)) (gName 4)
  (tIfS (tTest (tOp (cLt c.K) (tVar 4) (tVar 2)))
  (tAsg (tOp (bAdd c.K) (tVar 3) (tC (.int 1))) (gName 3))
  tNext))
  (tIfS (tTest (tOp (cNotIn c.P c.w c.K) (tVar 2) (tVar 1)))
  (tDrop (tBM c.K "list" kInsert (tVar 1) (tCons (tVar 3) (tCons (tVar 2) tNil))))
  tNext))))
  (tRet (tVar 1))))
def sp_law_unlike (c : Cn) : Sp := fun vs H Q E => vs.length = 1 ∧ ∃ (p : Addr) (xs : List Tx), vs = [.ref p] ∧ H p = some (.lst (xs.map fun x => V.str (tS x))) ∧ xs.length ≤ 90000 ∧ ∀ (H' : Hp) (f : Addr), Keep Nil H H' → H f = none → H' f = some (.lst ((canonT xs).map fun x => V.str (tS x))) → Q (.ref f) H'
theorem p_law_unlike {c : Cn} {mg : Str → Option Value} (T : Txt c mg) {vs : List V} {H : Hp} {Q : VK} {E : XK} (h : sp_law_unlike c vs H Q E) : t_law_unlike c { nx := fun _ H' => Q .non H', rt := Q } (start N_law_unlike vs) H := by
  obtain ⟨_, p, xs, rfl, ep, few, k⟩ := h
  unfold t_law_unlike
  repeat kaf_suf
  intro f hf
  have kf : Keep Nil H (upd H f (.lst [])) := Keep.alloc hf
  have ef : (upd H f (.lst [])) f = some (.lst []) := upd_same
  have ep0 := kf.get (fun z => z) ep
  have nfp : f ≠ p := ne_new hf ep
  generalize upd H f (.lst []) = H0 at kf ef ep0 ⊢
  repeat kaf_suf
  refine for_list (xs := xs.map fun x => V.str (tS x)) (fun j σ H' => ∃ (x2 x3 x4 : Option V), σ = [some (.ref p), some (.ref f), x2, x3, x4] ∧ Keep Nil H H' ∧ H' f = some (.lst ((canonT (xs.take j)).map fun x => V.str (tS x))) ∧ H' p = some (.lst (xs.map fun x => V.str (tS x)))) ⟨_, _, _, rfl, kf, ef, ep0⟩ ?_ ?_ ?_
  · rintro j σ H' _ ⟨_, _, _, _, _, _, e⟩
    exact SqL.of e
  · rintro j x σ H1 hj ⟨x2, x3, x4, rfl, k1, e1, ep1⟩
    rw [List.getElem?_map] at hj
    obtain ⟨x, hx, rfl⟩ := Option.map_eq_some_iff.mp hj
    have hjl := (List.getElem?_eq_some_iff.mp hx).1
    have cu := canonT_up (xs.take j)
    have cl := canonT_len (l := xs.take j)
    have tk1 : ∀ z, z ∈ xs.take (j + 1) ↔ z = x ∨ z ∈ canonT (xs.take j) := fun z => by
      rw [List.take_succ, hx, List.mem_append, canonT_mem]
      show _ ∨ z ∈ [x] ↔ _
      rw [List.mem_singleton, or_comm]
    generalize hl : canonT (xs.take j) = l at e1 cu cl tk1
    rw [List.length_take] at cl
    repeat kaf_suf
    refine for_list (xs := l.map fun x => V.str (tS x)) (fun i σ H' => ∃ (x4 : Option V), σ = [some (.ref p), some (.ref f), some (.str (tS x)), some (.int (((l.take i).filter fun y => decide (y < x)).length : Nat)), x4] ∧ H' = H1) ⟨_, rfl, rfl⟩ ?_ ?_ ?_
    · rintro i σ H' _ ⟨_, _, rfl⟩
      exact SqL.of e1
    · rintro i y σ H' hi ⟨x4, rfl, rfl⟩
      rw [List.getElem?_map] at hi
      obtain ⟨y, hy, rfl⟩ := Option.map_eq_some_iff.mp hi
      repeat kaf_suf
      refine r_ite (fun lt => ?_) (fun lt => ?_)
      · have lt : y < x := lt
        repeat kaf_suf
        refine ⟨some (.str (tS y)), ?_, rfl⟩
        rw [filter_take hy, if_pos (decide_eq_true lt)]
        rfl
      · have lt : ¬ y < x := lt
        repeat kaf_suf
        refine ⟨some (.str (tS y)), ?_, rfl⟩
        rw [filter_take hy, if_neg (by simpa using lt)]
        rfl
    · rintro σ H' ⟨x4, rfl, rfl⟩
      rw [List.length_map, List.take_length]
      repeat kaf_suf
      refine v_ninSl (os := l.map tS) (by rw [List.map_map]; exact e1) ?_
      repeat kaf_suf
      refine r_iteN (fun nk => ?_) (fun nk => ?_)
      · have nx : x ∉ l := fun m => nk (List.mem_map.mpr ⟨x, m, rfl⟩)
        have fl : (l.filter fun y => decide (y < x)).length ≤ l.length := List.length_filter_le _ _
        repeat kaf_suf
        refine v_insert (xs := l.map fun x => V.str (tS x)) e1 (few1 (by rw [List.length_map]; omega)) ⟨by omega, by omega⟩ ?_
        have es : (l.map fun x => V.str (tS x)).take (((l.filter fun y => decide (y < x)).length : Nat) : Int).toNat ++ [V.str (tS x)] ++ (l.map fun x => V.str (tS x)).drop (((l.filter fun y => decide (y < x)).length : Nat) : Int).toNat = (canonT (xs.take (j + 1))).map fun x => V.str (tS x) := by
          rw [Int.toNat_natCast, ← List.map_take, ← List.map_drop]
          have : l.take (l.filter fun y => decide (y < x)).length ++ [x] ++ l.drop (l.filter fun y => decide (y < x)).length = canonT (xs.take (j + 1)) := by
            rw [ins_at cu nx]
            exact upT_eq (insT_up cu) (canonT_up _) fun z => by rw [insT_mem, canonT_mem, tk1]
          rw [← this, List.map_append, List.map_append]
          rfl
        rw [es]
        repeat kaf_suf
        exact ⟨_, _, _, rfl, k1.setN hf, upd_same, get_set nfp.symm ep1⟩
      · have mx : x ∈ l := by
          have : tS x ∈ l.map tS := by simpa using nk
          obtain ⟨z, hz, e⟩ := List.mem_map.mp this
          exact tS_inj e ▸ hz
        repeat kaf_suf
        refine ⟨_, _, _, rfl, k1, ?_, ep1⟩
        rw [e1]
        have : l = canonT (xs.take (j + 1)) := upT_eq cu (canonT_up _) fun z => by
          rw [canonT_mem, tk1]
          exact ⟨.inr, fun h => h.elim (fun h => h ▸ mx) id⟩
        rw [this]
  · rintro σ H1 ⟨x2, x3, x4, rfl, k1, e1, ep1⟩
    rw [List.length_map, List.take_length] at e1
    repeat kaf_suf
    exact k _ f k1 hf e1
theorem cal_law_unlike {c : Cn} {mg : Str → Option Value} {base : Heap} (T : Txt c mg) : Cal c.P c.w c.K mg base CX0 1 "_law_unlike" (sp_law_unlike c) := by
  obtain ⟨f, fd, F, g, b⟩ := T.F_law_unlike
  exact ⟨f, fd, ["texts"], F.ok (k := 0) (N := N_law_unlike) sc_law_unlike (fun vs H Q E h => h.1) (fun cdv A outer s H vs Q E hr h => ⟨t_law_unlike c, by
  exact (pss_cons (ps_set (i := 1) sc_law_unlike.nd rfl (Or.inl rfl) (pe_lst pa_nil))
  (pss_cons (ps_for PassesOwn.never rfl (pi_any (pv 0)) (pg_name (i := 2) sc_law_unlike.nd rfl (Or.inl rfl))
  (pss_cons (ps_set (i := 3) sc_law_unlike.nd rfl (Or.inl rfl) pe_int)
  (pss_cons (ps_for PassesOwn.never rfl (pi_any (pv 1)) (pg_name (i := 4) sc_law_unlike.nd rfl (Or.inl rfl))
  (pss_one (ps_if (pt_cmpR (o_lt (hu64 hr)) (pv 4) (pv 2) (nomark _)) (pss_one (ps_set (i := 3) sc_law_unlike.nd rfl (Or.inl rfl) (pe_op o_add (pv 3) pe_int))) pss_nil)))
  (pss_one (ps_if (pt_cmpR (o_notin (hu65 hr)) (pv 2) (pv 1) (by rfl)) (pss_one (ps_expr (pe_bm PySem.F.plainAttrs_list PySem.F.slot_list_insert PySem.F.type_list_insert mt_insert (pv 1) (pa_cons (pv 3) (pa_cons (pv 2) pa_nil))))) pss_nil)))))
  (pss_one (ps_ret (pv 1))))), p_law_unlike T h⟩), g, F.kp, b⟩
abbrev N_law_listed : List Str := ["texts"]
theorem sc_law_listed : FnScope N_law_listed ["texts"] (defScope s_law_listed) := ⟨rfl, rfl, rfl, by decide +kernel, rfl, by decide +kernel, by decide +kernel⟩
def t_law_listed (c : Cn) : TS :=
  (tRet (tBM c.K "str" (rJoin c.K) (tC (.str ",")) (tCons (tCall (sp_law_unlike c) [] E0 (tCons (tVar 0) tNil)) tNil)))
def sp_law_listed (c : Cn) : Sp := fun vs H Q E => vs.length = 1 ∧ ∃ (p : Addr) (xs : List Tx), vs = [.ref p] ∧ H p = some (.lst (xs.map fun x => V.str (tS x))) ∧ xs.length ≤ 90000 ∧ (xs.map (·.length + 1)).sum ≤ 150000 ∧ ∀ H', Keep Nil H H' → Q (.str (tS (jc (canonT xs)))) H'
theorem sum_len {l : List Tx} : l.length ≤ (l.map (·.length + 1)).sum := by
  induction l with
  | nil => exact Nat.le_refl _
  | cons x r ih => simp only [List.map_cons, List.sum_cons, List.length_cons]; omega
theorem p_law_listed {c : Cn} {mg : Str → Option Value} (T : Txt c mg) {vs : List V} {H : Hp} {Q : VK} {E : XK} (h : sp_law_listed c vs H Q E) : t_law_listed c { nx := fun _ H' => Q .non H', rt := Q } (start N_law_listed vs) H := by
  obtain ⟨_, p, xs, rfl, ep, few, sm, k⟩ := h
  unfold t_law_listed
  repeat kaf_suf
  refine ⟨rfl, p, xs, rfl, ep, few, fun H1 f k1 hf ef => ?_⟩
  repeat kaf_suf
  have c1 := canonT_sum (l := xs)
  have c2 := canonT_len (l := xs)
  refine v_joinL (ys := (canonT xs).map tS) (by rw [List.map_map]; exact ef) (by have := sum_app (l := canonT xs) (k := 1); have e : ("," : Str).length = 1 := rfl; rw [e]; omega) ?_
  rw [jc_str]
  exact k _ k1
theorem cal_law_listed {c : Cn} {mg : Str → Option Value} {base : Heap} (T : Txt c mg) : Cal c.P c.w c.K mg base CX0 3 "_law_listed" (sp_law_listed c) := by
  obtain ⟨f, fd, F, g, b⟩ := T.F_law_listed
  exact ⟨f, fd, ["texts"], F.ok (k := 2) (N := N_law_listed) sc_law_listed (fun vs H Q E h => h.1) (fun cdv A outer s H vs Q E hr h => ⟨t_law_listed c, by
  exact (pss_one (ps_ret (pe_bm PySem.F.plainAttrs_str PySem.F.slot_str_join PySem.F.type_str_join mt_join pe_str (pa_cons (e_call (cal_law_unlike T) hr (by decide) pass0 rfl (pa_cons (pv 0) pa_nil)) pa_nil)))), p_law_listed T h⟩), g, F.kp, b⟩
/-- a table's rows -/
structure TabOk (tb : List Gm) : Prop where
  low : ∀ (at_ : Nat) (row : Gm), tb[at_]? = some row → ∀ z ∈ row.1 ++ row.2, 0 ≤ z ∧ z < at_
  few : ∀ row ∈ tb, row.1.length ≤ 8 ∧ row.2.length ≤ 8
  len : tb.length ≤ 50
def LenOk (tb : List Gm) (lb : List Nat) : Prop := lb.length = tb.length ∧ ∀ (at_ : Nat) (row : Gm), tb[at_]? = some row → ∃ b, lb[at_]? = some b ∧ ((row.1 ++ row.2).map fun z => lb.getD z.toNat 0 + 1).sum + 3 ≤ b ∧ b ≤ 9000
def rowT (ts : List Tx) (row : Gm) : Tx := if row.1 = [] ∧ row.2 = [] then [48] else wr (canonT (row.1.map fun z => ts.getD z.toNat [])) (canonT (row.2.map fun z => ts.getD z.toNat []))
def TsOk (tb : List Gm) (ts : List Tx) : Prop := ts.length = tb.length ∧ ∀ (at_ : Nat) (row : Gm), tb[at_]? = some row → ts[at_]? = some (rowT ts row)
theorem getD_app {α : Type} {l m : List α} {i : Nat} {d : α} (h : i < l.length) : (l ++ m).getD i d = l.getD i d := by
  rw [List.getD_eq_getElem?_getD, List.getD_eq_getElem?_getD, List.getElem?_append_left h]
theorem rowT_app {ts us : List Tx} {row : Gm} (h : ∀ z ∈ row.1 ++ row.2, 0 ≤ z ∧ z < ts.length) : rowT (ts ++ us) row = rowT ts row := by
  have e : ∀ l : List Int, (∀ z ∈ l, 0 ≤ z ∧ z < ts.length) → (l.map fun z => (ts ++ us).getD z.toNat []) = l.map fun z => ts.getD z.toNat [] := fun l hl => List.map_congr_left fun z hz => getD_app (by have := hl z hz; omega)
  unfold rowT
  rw [e row.1 fun z hz => h z (List.mem_append_left _ hz), e row.2 fun z hz => h z (List.mem_append_right _ hz)]
theorem sum_le {α : Type} {f g : α → Nat} : ∀ {l : List α}, (∀ x ∈ l, f x ≤ g x) → (l.map f).sum ≤ (l.map g).sum
  | [], _ => Nat.le_refl _
  | x :: r, h => by
    have := sum_le (l := r) fun y hy => h y (List.mem_cons_of_mem _ hy)
    have := h x List.mem_cons_self
    simp only [List.map_cons, List.sum_cons]; omega
theorem rowT_len {ts : List Tx} {lb : List Nat} {row : Gm} {b : Nat} (h : ∀ z ∈ row.1 ++ row.2, (ts.getD z.toNat []).length ≤ lb.getD z.toNat 0) (hb : ((row.1 ++ row.2).map fun z => lb.getD z.toNat 0 + 1).sum + 3 ≤ b) : (rowT ts row).length ≤ b := by
  unfold rowT
  split
  · simp; omega
  · unfold wr
    have g : ∀ l : List Int, (∀ z ∈ l, (ts.getD z.toNat []).length ≤ lb.getD z.toNat 0) → (jc (canonT (l.map fun z => ts.getD z.toNat []))).length ≤ (l.map fun z => lb.getD z.toNat 0 + 1).sum := fun l hl => by
      refine Nat.le_trans jc_len (Nat.le_trans canonT_sum ?_)
      rw [List.map_map]
      exact sum_le fun z hz => by
        have := hl z hz
        simp only [Function.comp]; omega
    have g1 := g row.1 fun z hz => h z (List.mem_append_left _ hz)
    have g2 := g row.2 fun z hz => h z (List.mem_append_right _ hz)
    rw [List.map_append, List.sum_append] at hb
    simp only [List.length_cons, List.length_append, List.length_nil]
    omega

abbrev N_law_texts : List Str := ["table", "texts", "lefts", "rights", "left", "at"]
theorem sc_law_texts : FnScope N_law_texts ["table"] (defScope s_law_texts) := ⟨rfl, rfl, rfl, by decide +kernel, rfl, by decide +kernel, by decide +kernel⟩
def t_law_texts (c : Cn) : TS :=
  (tSeq (tAsg (tLst tNil) (gName 1))
  (tSeq (tFor (iAny c.K (tVar 0)) (gSeq c.K 2 (gCons (gName 2) (gCons (gName 3) gNil)))
  (tIfS (tAnd (tTest (tOp (cEq c.K) (tVar 2) (tLst tNil))) (tTest (tOp (cEq c.K) (tVar 3) (tLst tNil))))
  (tDrop (tBM c.K "list" rAppend (tVar 1) (tCons (tC (.str "0")) tNil)))
  (tSeq (tAsg (tCall (sp_law_listed c) [] E0 (tCons (tLc (iAny c.K (tVar 2)) (gName 5) tYes (tOp (bIx c.P c.w c.K) (tVar 1) (tVar 5)) [5]) tNil)) (gName 4))
  (tDrop (tBM c.K "list" rAppend (tVar 1) (tCons (tOp (bAdd c.K) (tOp (bAdd c.K) (tOp (bAdd c.K) (tOp (bAdd c.K) (tC (.str "{")) (tVar 4)) (tC (.str "|"))) (tCall (sp_law_listed c) [] E0 (tCons (tLc (iAny c.K (tVar 3)) (gName 5) tYes (tOp (bIx c.P c.w c.K) (tVar 1) (tVar 5)) [5]) tNil))) (tC (.str "}"))) tNil))))))
  (tRet (tVar 1))))
theorem paired_get' {α β : Type} {R : α → β → Prop} : ∀ {xs : List α} {ys : List β} {i : Nat} {x : α}, Paired R xs ys → xs[i]? = some x → ∃ y, ys[i]? = some y ∧ R x y
  | _, _, _, _, .nil, h => by simp at h
  | _, _, 0, _, .cons r _, h => by simp at h; subst h; exact ⟨_, rfl, r⟩
  | _, _, i + 1, _, .cons _ t, h => by
    obtain ⟨y, h1, h2⟩ := paired_get' (i := i) t (by simpa using h)
    exact ⟨y, by simpa using h1, h2⟩
theorem tx_lc {c : Cn} {mg : Str → Option Value} (T : Txt c mg) {f q : Addr} {l : List Int} {ts : List Tx} {x0 x2 x3 x4 x5 : Option V} {H : Hp} {Q : VK}
    (ef : H f = some (.lst (ts.map fun x => V.str (tS x)))) (eq : H q = some (.lst (l.map V.int))) (lo : ∀ z ∈ l, 0 ≤ z ∧ z < ts.length) (few : l.length ≤ 16)
    (k : ∀ (H' : Hp) (r : Addr), Keep Nil H H' → H r = none → H' r = some (.lst ((l.map fun z => ts.getD z.toNat []).map fun x => V.str (tS x))) → Q (.ref r) H') :
    kLc (Itl c.K q) (gName 5) tYes (tOp (bIx c.P c.w c.K) (tVar 1) (tVar 5)) [5] [x0, some (.ref f), x2, x3, x4, x5] H Q := by
  intro D0 hD
  refine lc_list (xs := l.map V.int) (fun j H' => Keep Nil H H' ∧ H' D0 = some (.lst (((l.take j).map fun z => ts.getD z.toNat []).map fun x => V.str (tS x)))) ⟨Keep.alloc hD, upd_same⟩ ?_ ?_ ?_
  · rintro j H' _ ⟨k1, _⟩
    exact SqL.of (k1.get (fun z => z) eq)
  · rintro j x H1 hj ⟨k1, eD⟩
    rw [List.getElem?_map] at hj
    obtain ⟨z, hz, rfl⟩ := Option.map_eq_some_iff.mp hj
    have hj1 := (List.getElem?_eq_some_iff.mp hz).1
    have ef1 := k1.get (fun z => z) ef
    obtain ⟨z0, z1⟩ := lo z (List.mem_of_getElem? hz)
    have hat : atI (ts.map fun x => V.str (tS x)) z = some (.str (tS (ts.getD z.toNat []))) := atI_get (n := z.toNat) (by
      rw [List.getElem?_map, List.getElem?_eq_getElem (by omega), List.getD_eq_getElem?_getD, List.getElem?_eq_getElem (by omega)]
      rfl) (by omega)
    repeat kaf_suf
    refine ⟨rfl, ?_⟩
    repeat kaf_suf
    refine ⟨_, eD, few1 (by rw [List.length_map, List.length_map, List.length_take]; omega), k1.setN hD, ?_⟩
    rw [upd_same, List.take_succ, hz]
    simp
  · rintro H' ⟨k1, eD⟩
    rw [List.length_map, List.take_length] at eD
    exact k _ D0 k1 hD eD
theorem r_join {H1 : Hp} {A : Prop} {P : Hp → Prop} {G : Prop} (h : (A → ∀ H2, Keep Nil H1 H2 → P H2) → G) (k : A → ∀ H2, Keep Nil H1 H2 → P H2) : G := h k
def sp_law_texts (c : Cn) : Sp := fun vs H Q E => vs.length = 1 ∧ ∃ (t : Addr) (tb : List Gm) (lb : List Nat), vs = [.ref t] ∧ RowsAt Nil H t tb ∧ TabOk tb ∧ LenOk tb lb ∧
  ∀ (H' : Hp) (p : Addr) (ts : List Tx), Keep Nil H H' → H p = none → H' p = some (.lst (ts.map fun x => V.str (tS x))) → TsOk tb ts → (∀ (i : Nat), i < tb.length → (ts.getD i []).length ≤ lb.getD i 0) → Q (.ref p) H'
theorem p_law_texts {c : Cn} {mg : Str → Option Value} (T : Txt c mg) {vs : List V} {H : Hp} {Q : VK} {E : XK} (h : sp_law_texts c vs H Q E) : t_law_texts c { nx := fun _ H' => Q .non H', rt := Q } (start N_law_texts vs) H := by
  obtain ⟨_, t, tb, lb, rfl, ⟨ks, et, pk⟩, tok, ⟨lbl, lok⟩, k⟩ := h
  have tl := tok.len
  unfold t_law_texts
  repeat kaf_suf
  intro f hf
  have kf : Keep Nil H (upd H f (.lst [])) := Keep.alloc hf
  have ef : (upd H f (.lst [])) f = some (.lst []) := upd_same
  generalize upd H f (.lst []) = H0 at kf ef ⊢
  have et0 := kf.get (fun z => z) et
  repeat kaf_suf
  refine for_list (xs := ks.map V.ref) (fun j σ H' => ∃ (x2 x3 x4 x5 : Option V) (ts : List Tx), σ = [some (.ref t), some (.ref f), x2, x3, x4, x5] ∧ Keep Nil H H' ∧ H' f = some (.lst (ts.map fun x => V.str (tS x))) ∧ ts.length = j ∧ (∀ (i : Nat) (row : Gm), i < j → tb[i]? = some row → ts[i]? = some (rowT ts row)) ∧ ∀ (i : Nat), i < j → (ts.getD i []).length ≤ lb.getD i 0) ⟨_, _, _, _, [], rfl, kf, ef, rfl, (fun i row h => by omega), fun i h => by omega⟩ ?_ ?_ ?_
  · rintro j σ H' _ ⟨_, _, _, _, _, _, k1, _⟩
    exact SqL.of (k1.get (fun z => z) et)
  · rintro j x σ H1 hj ⟨x2, x3, x4, x5, ts, rfl, k1, e1, rfl, tsok, tsl⟩
    rw [List.getElem?_map] at hj
    obtain ⟨w, hw, rfl⟩ := Option.map_eq_some_iff.mp hj
    obtain ⟨row, hrow, a, b, ew, ea, eb, _⟩ := paired_get' pk hw
    have hjl := (List.getElem?_eq_some_iff.mp hrow).1
    obtain ⟨fa, fb⟩ := tok.few row (List.mem_of_getElem? hrow)
    have lo := tok.low _ row hrow
    obtain ⟨bd, hbd, bs, b6⟩ := lok _ row hrow
    have lbj : lb.getD ts.length 0 = bd := by rw [List.getD_eq_getElem?_getD, hbd]; rfl
    have rl : (rowT ts row).length ≤ bd := rowT_len (fun z hz => by have := lo z hz; exact tsl _ (by omega)) bs
    have ew1 := k1.get (fun z => z) ew
    have ea1 := k1.get (fun z => z) ea
    have eb1 := k1.get (fun z => z) eb
    have step : ∀ (H' : Hp), Keep Nil H H' → H' f = some (.lst ((ts ++ [rowT ts row]).map fun x => V.str (tS x))) → ∀ (x2 x3 x4 x5 : Option V), ∃ (y2 y3 y4 y5 : Option V) (ts' : List Tx), [some (V.ref t), some (V.ref f), x2, x3, x4, x5] = [some (.ref t), some (.ref f), y2, y3, y4, y5] ∧ Keep Nil H H' ∧ H' f = some (.lst (ts'.map fun x => V.str (tS x))) ∧ ts'.length = ts.length + 1 ∧ (∀ (i : Nat) (row : Gm), i < ts.length + 1 → tb[i]? = some row → ts'[i]? = some (rowT ts' row)) ∧ ∀ (i : Nat), i < ts.length + 1 → (ts'.getD i []).length ≤ lb.getD i 0 := fun H' k' e' x2 x3 x4 x5 => by
      refine ⟨x2, x3, x4, x5, ts ++ [rowT ts row], rfl, k', e', by rw [List.length_append]; rfl, fun i r hi hr => ?_, fun i hi => ?_⟩
      · have lor := tok.low i r hr
        rw [rowT_app fun z hz => by have := lor z hz; omega]
        by_cases e : i = ts.length
        · subst e
          rw [hrow] at hr
          cases hr
          rw [List.getElem?_append_right (Nat.le_refl _), Nat.sub_self]
          rfl
        · rw [List.getElem?_append_left (by omega)]
          exact tsok i r (by omega) hr
      · by_cases e : i = ts.length
        · subst e
          rw [lbj, List.getD_eq_getElem?_getD, List.getElem?_append_right (Nat.le_refl _), Nat.sub_self]
          exact rl
        · rw [getD_app (by omega)]
          exact tsl i (by omega)
    have low1 : ∀ z ∈ row.1, 0 ≤ z ∧ z < (ts.length : Int) := fun z hz => lo z (List.mem_append_left _ hz)
    have low2 : ∀ z ∈ row.2, 0 ≤ z ∧ z < (ts.length : Int) := fun z hz => lo z (List.mem_append_right _ hz)
    have tsb : ∀ l : List Int, (∀ z ∈ l, 0 ≤ z ∧ z < (ts.length : Int)) → ∀ x ∈ l.map (fun z => ts.getD z.toNat []), x.length ≤ 9000 := fun l hl x hx => by
      obtain ⟨z, hz, rfl⟩ := List.mem_map.mp hx
      have h1 := hl z hz
      have h2 := tsl z.toNat (by omega)
      have hz2 : z.toNat < tb.length := by omega
      obtain ⟨b', hb', _, h3⟩ := lok z.toNat _ (List.getElem?_eq_getElem hz2)
      rw [List.getD_eq_getElem?_getD (l := lb), hb'] at h2
      exact Nat.le_trans h2 h3
    repeat kaf_suf
    apply r_join (H1 := H1) (A := ¬ (row.1 = [] ∧ row.2 = []))
    · intro key q hq
      refine v_eqD (dp_ints (get_new hq ea1)) (.lst (SqL.of upd_same) .nil) (dInts_sh _) (dInts_sh []) ?_
      rw [show PyData.eqv (dInts row.1) (.list []) = decide (row.1 = []) from eqv_dInts row.1 []]
      refine r_kB (r_ite (fun r1 => ?_) (fun r1 => ?_))
      · have e1q := get_new (u := .lst []) hq e1
        have eb1q := get_new (u := .lst []) hq eb1
        have kq : Keep Nil H1 (upd H1 q (.lst [])) := Keep.alloc hq
        generalize upd H1 q (.lst []) = H2 at e1q eb1q kq ⊢
        repeat kaf_suf
        intro q2 hq2
        refine v_eqD (dp_ints (get_new hq2 eb1q)) (.lst (SqL.of upd_same) .nil) (dInts_sh _) (dInts_sh []) ?_
        rw [show PyData.eqv (dInts row.2) (.list []) = decide (row.2 = []) from eqv_dInts row.2 []]
        refine r_kB (r_ite (fun r2 => ?_) (fun r2 => ?_))
        · have e1r := get_new (u := .lst []) hq2 e1q
          have kr : Keep Nil H1 (upd H2 q2 (.lst [])) := kq.new hq2
          generalize upd H2 q2 (.lst []) = H3 at e1r kr ⊢
          repeat kaf_suf
          rw [show (ts.map fun x => V.str (tS x)) ++ [V.str "0"] = (ts ++ [rowT ts row]).map fun x => V.str (tS x) by
            rw [List.map_append]
            unfold rowT
            rw [if_pos ⟨r1, r2⟩]
            rfl]
          exact step _ ((k1.trans kr).setN hf) upd_same _ _ _ _
        · exact key (fun z => r2 z.2) _ (kq.new hq2)
      · exact key (fun z => r1 z.1) _ (Keep.alloc hq)
    · intro nb H2 k2
      have e2 := k2.get (fun z => z) e1
      have ea2 := k2.get (fun z => z) ea1
      have eb2 := k2.get (fun z => z) eb1
      have k02 := k1.trans k2
      repeat kaf_suf
      refine tx_lc T e2 ea2 low1 (by omega) fun H3 r3 k3 hr3 er3 => ?_
      repeat kaf_suf
      refine ⟨rfl, r3, _, rfl, er3, by rw [List.length_map]; omega, jc_bound (tsb row.1 low1) (by rw [List.length_map]; omega), fun H4 k4 => ?_⟩
      have k24 := k3.trans k4
      have e4 := k24.get (fun z => z) e2
      have eb4 := k24.get (fun z => z) eb2
      clear k3 hr3 er3 k4
      have b1 := jc_bound (l := canonT (row.1.map fun z => ts.getD z.toNat [])) (fun x hx => tsb row.1 low1 x (canonT_mem.mp hx)) (Nat.le_trans canonT_len (by rw [List.length_map]; omega))
      have b1' := jc_len (l := canonT (row.1.map fun z => ts.getD z.toNat []))
      have b2 := jc_bound (l := canonT (row.2.map fun z => ts.getD z.toNat [])) (fun x hx => tsb row.2 low2 x (canonT_mem.mp hx)) (Nat.le_trans canonT_len (by rw [List.length_map]; omega))
      have b2' := jc_len (l := canonT (row.2.map fun z => ts.getD z.toNat []))
      have er : rowT ts row = wr (canonT (row.1.map fun z => ts.getD z.toNat [])) (canonT (row.2.map fun z => ts.getD z.toNat [])) := if_neg nb
      repeat kaf_suf
      rw [show ("{" : Str) = tS [123] from rfl]
      refine v_addS (by rw [tS_len, tS_len, sizeLine_eq]; simp only [List.length_cons, List.length_append, List.length_nil]; omega) ?_
      rw [tS_app]
      repeat kaf_suf
      rw [show ("|" : Str) = tS [124] from rfl]
      refine v_addS (by rw [tS_len, tS_len, sizeLine_eq]; simp only [List.length_cons, List.length_append, List.length_nil]; omega) ?_
      rw [tS_app]
      repeat kaf_suf
      refine tx_lc T e4 eb4 low2 (by omega) fun H5 r5 k5 hr5 er5 => ?_
      repeat kaf_suf
      refine ⟨rfl, r5, _, rfl, er5, by rw [List.length_map]; omega, jc_bound (tsb row.2 low2) (by rw [List.length_map]; omega), fun H6 k6 => ?_⟩
      have k46 := k5.trans k6
      have e6 := k46.get (fun z => z) e4
      repeat kaf_suf
      refine v_addS (by rw [tS_len, tS_len, sizeLine_eq]; simp only [List.length_cons, List.length_append, List.length_nil]; omega) ?_
      rw [tS_app]
      repeat kaf_suf
      rw [show ("}" : Str) = tS [125] from rfl]
      refine v_addS (by rw [tS_len, tS_len, sizeLine_eq]; simp only [List.length_cons, List.length_append, List.length_nil]; omega) ?_
      rw [tS_app]
      repeat kaf_suf
      have ew : [123] ++ jc (canonT (row.1.map fun z => ts.getD z.toNat [])) ++ [124] ++ jc (canonT (row.2.map fun z => ts.getD z.toNat [])) ++ [125] = rowT ts row := by rw [er]; unfold wr; simp
      rw [ew, show (ts.map fun x => V.str (tS x)) ++ [V.str (tS (rowT ts row))] = (ts ++ [rowT ts row]).map fun x => V.str (tS x) by rw [List.map_append]; rfl]
      exact step _ (((k02.trans k24).trans k46).setN hf) upd_same _ _ _ _
  · rintro σ H1 ⟨x2, x3, x4, x5, ts, rfl, k1, e1, tl', tsok, tsl⟩
    have kl := Paired.length pk
    rw [List.length_map, kl] at tl' tsok tsl
    repeat kaf_suf
    refine k H1 f ts k1 hf e1 ⟨tl', fun i row hr => tsok i row (List.getElem?_eq_some_iff.mp hr).1 hr⟩ tsl
theorem cal_law_texts {c : Cn} {mg : Str → Option Value} {base : Heap} (T : Txt c mg) : Cal c.P c.w c.K mg base CX0 4 "_law_texts" (sp_law_texts c) := by
  obtain ⟨f, fd, F, g, b⟩ := T.F_law_texts
  exact ⟨f, fd, ["table"], F.ok (k := 3) (N := N_law_texts) sc_law_texts (fun vs H Q E h => h.1) (fun cdv A outer s H vs Q E hr h => ⟨t_law_texts c, by
  exact (pss_cons (ps_set (i := 1) sc_law_texts.nd rfl (Or.inr rfl) (pe_lst pa_nil))
  (pss_cons (ps_for PassesOwn.never rfl (pi_any (pv 0)) (g_seq rfl (pgs_cons (pg_name (i := 2) sc_law_texts.nd rfl (Or.inl rfl)) (pgs_cons (pg_name (i := 3) sc_law_texts.nd rfl (Or.inl rfl)) pgs_nil)))
  (pss_one (ps_if (PW.pt (pw_and (pt_cmpR (o_eq (hu64 hr)) (pv 2) (pe_lst pa_nil) (nomark _)) (pw_and1 (pt_cmpR (o_eq (hu64 hr)) (pv 3) (pe_lst pa_nil) (nomark _))))) (pss_one (ps_expr (pe_bm PySem.F.plainAttrs_list PySem.F.slot_list_append PySem.F.type_list_append mt_append (pv 1) (pa_cons pe_str pa_nil)))) (pss_cons (ps_set (i := 4) sc_law_texts.nd rfl (Or.inl rfl) (e_call (cal_law_listed T) hr (by decide) pass0 rfl (pa_cons (pe_lc (own := [("at", 5)]) rfl sc_law_texts.nd (pi_any (pv 2)) (blkOk_by (own := [("at", 5)]) (N := N_law_texts) (sc := defScope s_law_texts) (by decide +kernel)) (fun _ _ _ _ _ => (pg_name (i := 5) sc_law_texts.nd rfl (Or.inl rfl))) (fun _ _ _ _ _ => pts_nil) (fun _ _ _ _ _ => (pe_ix (x_ix (hu64 hr)) (pv 1) (pv 5) (fun _ _ => rfl)))) pa_nil)))
  (pss_one (ps_expr (pe_bm PySem.F.plainAttrs_list PySem.F.slot_list_append PySem.F.type_list_append mt_append (pv 1) (pa_cons (pe_op o_add (pe_op o_add (pe_op o_add (pe_op o_add pe_str (pv 4)) pe_str) (e_call (cal_law_listed T) hr (by decide) pass0 rfl (pa_cons (pe_lc (own := [("at", 5)]) rfl sc_law_texts.nd (pi_any (pv 3)) (blkOk_by (own := [("at", 5)]) (N := N_law_texts) (sc := defScope s_law_texts) (by decide +kernel)) (fun _ _ _ _ _ => (pg_name (i := 5) sc_law_texts.nd rfl (Or.inl rfl))) (fun _ _ _ _ _ => pts_nil) (fun _ _ _ _ _ => (pe_ix (x_ix (hu64 hr)) (pv 1) (pv 5) (fun _ _ => rfl)))) pa_nil))) pe_str) pa_nil))))))))
  (pss_one (ps_ret (pv 1))))), p_law_texts T h⟩), g, F.kp, b⟩

abbrev N_law_games : List Str := ["script", "begin", "most", "deepest", "table", "depths", "k", "store", "low", "sides", "turn", "at", "j"]
theorem sc_law_games : FnScope N_law_games ["script", "begin", "most", "deepest"] (defScope s_law_games) := ⟨rfl, rfl, rfl, by decide +kernel, rfl, by decide +kernel, by decide +kernel⟩
def t_law_games (c : Cn) : TS :=
  (tSeq (tAsg (tLst (tCons (tTup (tCons (tLst tNil) (tCons (tLst tNil) tNil))) tNil)) (gName 4))
  (tSeq (tAsg (tLst (tCons (tC (.int 0)) tNil)) (gName 5))
  (tSeq (tFor (iRng1 (tCons (tCB (kMin c.K) (tCons (tCB (kMax c.K) (tCons (tOp bSub (tCB (kLen c.K) (tCons (tVar 0) tNil)) (tVar 1)) (tCons (tC (.int 4)) tNil))) (tCons (tVar 2) tNil))) tNil)) (gName 6)
  (tSeq (tAsg (tCall (sp_law_store c) [] E0 (tCons (tCall (sp_law_cell c) [] E0 (tCons (tVar 0) (tCons (tOp (bAdd c.K) (tVar 1) (tVar 6)) tNil))) tNil)) (gName 7))
  (tSeq (tAsg (tLc (iRng1 (tCons (tCB (kLen c.K) (tCons (tVar 4) tNil)) tNil)) (gName 11) (tTest (tOp (cLt c.K) (tOp (bIx c.P c.w c.K) (tVar 5) (tVar 11)) (tVar 3))) (tVar 11) [11]) (gName 8))
  (tSeq (tAsg (tLst tNil) (gName 9))
  (tSeq (tFor (iRng1 (tCons (tC (.int 2)) tNil)) (gName 10)
  (tDrop (tBM c.K "list" rAppend (tVar 9) (tCons (tLc (iRng1 (tCons (tCall (sp_law_take c) [] E0 (tCons (tVar 7) (tCons (tC (.int 4)) tNil))) tNil)) (gName 12) tYes (tOp (bIx c.P c.w c.K) (tVar 8) (tCall (sp_law_take c) [] E0 (tCons (tVar 7) (tCons (tCB (kLen c.K) (tCons (tVar 8) tNil)) tNil)))) [12]) tNil))))
  (tSeq (tDrop (tBM c.K "list" rAppend (tVar 4) (tCons (tTup (tCons (tOp (bIx c.P c.w c.K) (tVar 9) (tC (.int 0))) (tCons (tOp (bIx c.P c.w c.K) (tVar 9) (tC (.int 1))) tNil))) tNil)))
  (tDrop (tBM c.K "list" rAppend (tVar 5) (tCons (tCB (kMax c.K) (tCons (tOp (bAdd c.K) (tLst (tCons (tC (.int 0)) tNil)) (tLc (iAny c.K (tOp (bAdd c.K) (tOp (bIx c.P c.w c.K) (tVar 9) (tC (.int 0))) (tOp (bIx c.P c.w c.K) (tVar 9) (tC (.int 1))))) (gName 11) tYes (tOp (bAdd c.K) (tC (.int 1)) (tOp (bIx c.P c.w c.K) (tVar 5) (tVar 11))) [11])) tNil)) tNil)))))))))
  (tRet (tVar 4)))))
def DsOk (tb : List Gm) (ds : List Int) : Prop := ds.length = tb.length ∧ ∀ (i : Nat) (row : Gm), tb[i]? = some row → ∃ d, ds[i]? = some d ∧ d ∈ 0 :: ((row.1 ++ row.2).map fun z => 1 + ds.getD z.toNat 0) ∧ ∀ y ∈ 0 :: ((row.1 ++ row.2).map fun z => 1 + ds.getD z.toNat 0), y ≤ d
theorem DsOk.push {tb : List Gm} {ds : List Int} (h : DsOk tb ds) (low : ∀ (i : Nat) (row : Gm), tb[i]? = some row → ∀ z ∈ row.1 ++ row.2, 0 ≤ z ∧ z < i) {row : Gm} {d : Int} (lr : ∀ z ∈ row.1 ++ row.2, 0 ≤ z ∧ z < tb.length) (m : d ∈ 0 :: ((row.1 ++ row.2).map fun z => 1 + ds.getD z.toNat 0)) (mx : ∀ y ∈ 0 :: ((row.1 ++ row.2).map fun z => 1 + ds.getD z.toNat 0), y ≤ d) : DsOk (tb ++ [row]) (ds ++ [d]) := by
  obtain ⟨h1, h2⟩ := h
  have e : ∀ l : List Int, (∀ z ∈ l, 0 ≤ z ∧ z < (tb.length : Int)) → (l.map fun z => 1 + (ds ++ [d]).getD z.toNat 0) = l.map fun z => 1 + ds.getD z.toNat 0 := fun l hl => List.map_congr_left fun z hz => by
    rw [getD_app]
    have := hl z hz; omega
  refine ⟨by rw [List.length_append, List.length_append, h1]; rfl, fun i r hi => ?_⟩
  by_cases c : i < tb.length
  · rw [List.getElem?_append_left c] at hi
    obtain ⟨d', a, b, k⟩ := h2 i r hi
    have lo := low i r hi
    rw [e _ fun z hz => by have := lo z hz; omega]
    exact ⟨d', by rw [List.getElem?_append_left (by omega)]; exact a, b, k⟩
  · have hl := (List.getElem?_eq_some_iff.mp hi).1
    rw [List.length_append] at hl
    have hl : i < tb.length + 1 := hl
    have ei : i = tb.length := by omega
    subst ei
    rw [List.getElem?_append_right (Nat.le_refl _), Nat.sub_self] at hi
    cases hi
    rw [e _ lr]
    exact ⟨d, by rw [← h1, List.getElem?_append_right (Nat.le_refl _), Nat.sub_self]; rfl, m, mx⟩
theorem DsOk.uniq {tb : List Gm} {ds es : List Int} (h : DsOk tb ds) (k : DsOk tb es) (low : ∀ (i : Nat) (row : Gm), tb[i]? = some row → ∀ z ∈ row.1 ++ row.2, 0 ≤ z ∧ z < i) : ∀ (n i : Nat), i < n → i < tb.length → ds.getD i 0 = es.getD i 0
  | 0, _, h => by omega
  | n + 1, i, hin => fun hi => by
    have hrow : tb[i]? = some tb[i] := List.getElem?_eq_getElem hi
    obtain ⟨d, a, b, m⟩ := h.2 i _ hrow
    obtain ⟨d', a', b', m'⟩ := k.2 i _ hrow
    have lo := low i _ hrow
    have e : ((tb[i].1 ++ tb[i].2).map fun z => 1 + ds.getD z.toNat 0) = (tb[i].1 ++ tb[i].2).map fun z => 1 + es.getD z.toNat 0 := List.map_congr_left fun z hz => by
      have := lo z hz
      rw [DsOk.uniq h k low n z.toNat (by omega) (by omega)]
    rw [e] at b m
    rw [List.getD_eq_getElem?_getD, List.getD_eq_getElem?_getD, a, a']
    have h1 := m _ b'
    have h2 := m' _ b
    show d = d'
    omega
structure Tab3 (tb : List Gm) (ds : List Int) : Prop where
  low : ∀ (i : Nat) (row : Gm), tb[i]? = some row → ∀ z ∈ row.1 ++ row.2, 0 ≤ z ∧ z < i
  few : ∀ row ∈ tb, row.1.length ≤ 3 ∧ row.2.length ≤ 3
  dso : DsOk tb ds
  dp : ∀ d ∈ ds, 0 ≤ d ∧ d ≤ 3
  pos : 0 < tb.length
theorem tab3_0 : Tab3 [([], [])] [0] where
  low := fun i row hi z hz => by
    cases i with
    | zero => cases hi; exact nomatch hz
    | succ i => cases hi
  few := fun row hr => by
    rw [List.mem_singleton] at hr
    subst hr; exact ⟨Nat.zero_le _, Nat.zero_le _⟩
  dso := ⟨rfl, fun i row hi => by
    cases i with
    | zero => cases hi; exact ⟨0, rfl, by simp, by simp⟩
    | succ i => cases hi⟩
  dp := by simp
  pos := by simp
theorem Tab3.push {tb : List Gm} {ds : List Int} (h : Tab3 tb ds) {row : Gm} {d : Int} (lr : ∀ z ∈ row.1 ++ row.2, 0 ≤ z ∧ z < tb.length ∧ ds.getD z.toNat 0 < 3) (f : row.1.length ≤ 3 ∧ row.2.length ≤ 3) (m : d ∈ 0 :: ((row.1 ++ row.2).map fun z => 1 + ds.getD z.toNat 0)) (mx : ∀ y ∈ 0 :: ((row.1 ++ row.2).map fun z => 1 + ds.getD z.toNat 0), y ≤ d) : Tab3 (tb ++ [row]) (ds ++ [d]) := by
  refine ⟨fun i r hi z hz => ?_, fun r hr => ?_, h.dso.push h.low (fun z hz => ⟨(lr z hz).1, (lr z hz).2.1⟩) m mx, fun y hy => ?_, by rw [List.length_append]; exact Nat.lt_of_lt_of_le h.pos (Nat.le_add_right _ _)⟩
  · by_cases c : i < tb.length
    · rw [List.getElem?_append_left c] at hi
      exact h.low i r hi z hz
    · have hl := (List.getElem?_eq_some_iff.mp hi).1
      rw [List.length_append] at hl
      have hl : i < tb.length + 1 := hl
      have ei : i = tb.length := by omega
      subst ei
      rw [List.getElem?_append_right (Nat.le_refl _), Nat.sub_self] at hi
      cases hi
      have := lr z hz
      omega
  · rcases List.mem_append.mp hr with hr | hr
    · exact h.few r hr
    · rw [List.mem_singleton] at hr
      subst hr; exact f
  · rcases List.mem_append.mp hy with hy | hy
    · exact h.dp y hy
    · rw [List.mem_singleton] at hy
      subst hy
      have m0 := mx 0 List.mem_cons_self
      rcases List.mem_cons.mp m with h | h
      · omega
      · obtain ⟨z, hz, rfl⟩ := List.mem_map.mp h
        have := (lr z hz).2.2
        exact ⟨m0, by omega⟩
theorem paired_two {α β : Type} {R : α → β → Prop} {xs : List α} {ys : List β} (h : Paired R xs ys) (l : ys.length = 2) : ∃ a b c d, xs = [a, b] ∧ ys = [c, d] ∧ R a c ∧ R b d := by
  cases h with
  | nil => cases l
  | cons r t =>
    cases t with
    | nil => cases l
    | cons r2 t =>
      cases t with
      | nil => exact ⟨_, _, _, _, rfl, rfl, r, r2⟩
      | cons _ _ => simp at l
theorem keep_noneM {M : Addr → Prop} {H H' : Hp} {p : Addr} (k : Keep M H H') (n : ¬ M p) (h : H' p = none) : H p = none := by
  cases e : H p with
  | none => rfl
  | some o => rw [k p o n e] at h; cases h
theorem wd_small {x : Int} (h : x.natAbs < 1024) : Wd 1000 x := Nat.lt_of_lt_of_le (show x.natAbs < 2 ^ 10 from h) (Nat.pow_le_pow_right (by decide) (by decide))
theorem RowAt.add {W : Addr → Prop} {H : Hp} {w x : Addr} {g : Gm} (r : RowAt W H w g) (h : H x = none) : RowAt (fun y => W y ∨ y = x) H w g := by
  obtain ⟨a, b, h1, h2, h3, n1, n2, n3⟩ := r
  exact ⟨a, b, h1, h2, h3, (fun z => z.elim n1 fun z => by rw [z, h] at h1; cases h1), (fun z => z.elim n2 fun z => by rw [z, h] at h2; cases h2), fun z => z.elim n3 fun z => by rw [z, h] at h3; cases h3⟩
theorem RowAt.mono {W W' : Addr → Prop} {H : Hp} {w : Addr} {g : Gm} (r : RowAt W H w g) (h : ∀ x, W' x → W x) : RowAt W' H w g := by
  obtain ⟨a, b, h1, h2, h3, n1, n2, n3⟩ := r
  exact ⟨a, b, h1, h2, h3, (fun z => n1 (h _ z)), (fun z => n2 (h _ z)), fun z => n3 (h _ z)⟩
theorem StA.keep {H H' : Hp} {a : Addr} (s : StA H a) (k : Keep Nil H H') : StA H' a := by
  obtain ⟨g, z, n, e, h⟩ := s
  exact ⟨g, z, n, k.get (fun z => z) e, h⟩
theorem StA.keepN {N : Addr → Prop} {H H' : Hp} {a : Addr} (s : StA H a) (k : Keep N H H') (n : ¬ N a) : StA H' a := by
  obtain ⟨g, z, n', e, h⟩ := s
  exact ⟨g, z, n', k.get n e, h⟩
theorem StA.some_ {H : Hp} {a : Addr} (s : StA H a) : H a ≠ none := by
  obtain ⟨g, z, n, e, h⟩ := s
  rw [e]; exact fun z => by cases z
/-- a list of drawn rows -/
def DrL (H0 H : Hp) (N : Addr → Prop) (G : Int → Prop) (q : Addr) (m : List Int) : Prop := H q = some (.lst (m.map V.int)) ∧ H0 q = none ∧ ¬ N q ∧ (∀ z ∈ m, G z)
def sp_law_games (c : Cn) : Sp := fun vs H Q E => vs.length = 4 ∧ ∃ (a : Addr) (ns : List Int), vs = [.ref a, .int 0, .int 8, .int 3] ∧ SqL c.K H a (ns.map V.int) ∧ ns.length ≤ 63 ∧ (∀ H', Keep Nil H H' → SqL c.K H' a (ns.map V.int)) ∧
  ∀ (H' : Hp) (t : Addr) (tb : List Gm) (ds : List Int), Keep Nil H H' → H t = none → RowsAt (fun x => x = t ∨ H x ≠ none) H' t tb → Tab3 tb ds → tb.length ≤ 9 → Q (.ref t) H'
theorem p_law_games {c : Cn} {mg : Str → Option Value} (T : Txt c mg) {vs : List V} {H : Hp} {Q : VK} {E : XK} (h : sp_law_games c vs H Q E) : t_law_games c { nx := fun _ H' => Q .non H', rt := Q } (start N_law_games vs) H := by
  obtain ⟨_, a, ns, rfl, hs, few, sq, k⟩ := h
  unfold t_law_games
  repeat kaf_suf
  intro p1 hp1
  repeat kaf_suf
  intro p2 hp2
  repeat kaf_suf
  intro q hq
  repeat kaf_suf
  intro t ht
  repeat kaf_suf
  intro D hD
  have kk : Keep Nil H (upd (upd (upd (upd (upd H p1 (.lst [])) p2 (.lst [])) q (.tup [.ref p1, .ref p2])) t (.lst [.ref q])) D (.lst [.int 0])) := ((((Keep.alloc hp1).new hp2).new hq).new ht).new hD
  have ed : (upd (upd (upd (upd (upd H p1 (.lst [])) p2 (.lst [])) q (.tup [.ref p1, .ref p2])) t (.lst [.ref q])) D (.lst [.int 0])) D = some (.lst [.int 0]) := upd_same
  have et : (upd (upd (upd (upd (upd H p1 (.lst [])) p2 (.lst [])) q (.tup [.ref p1, .ref p2])) t (.lst [.ref q])) D (.lst [.int 0])) t = some (.lst [.ref q]) := by kaf_pre
  have eq : (upd (upd (upd (upd (upd H p1 (.lst [])) p2 (.lst [])) q (.tup [.ref p1, .ref p2])) t (.lst [.ref q])) D (.lst [.int 0])) q = some (.tup [.ref p1, .ref p2]) := by kaf_pre
  have e1 : (upd (upd (upd (upd (upd H p1 (.lst [])) p2 (.lst [])) q (.tup [.ref p1, .ref p2])) t (.lst [.ref q])) D (.lst [.int 0])) p1 = some (.lst []) := by kaf_pre
  have e2 : (upd (upd (upd (upd (upd H p1 (.lst [])) p2 (.lst [])) q (.tup [.ref p1, .ref p2])) t (.lst [.ref q])) D (.lst [.int 0])) p2 = some (.lst []) := by kaf_pre
  have ht0 : H t = none := none_of_upd (none_of_upd (none_of_upd ht))
  have hD0 : H D = none := none_of_upd (none_of_upd (none_of_upd (none_of_upd hD)))
  generalize upd (upd (upd (upd (upd H p1 (.lst [])) p2 (.lst [])) q (.tup [.ref p1, .ref p2])) t (.lst [.ref q])) D (.lst [.int 0]) = H0 at kk ed et eq e1 e2 ⊢
  have nDt : D ≠ t := fun z => by rw [z, et] at ed; cases ed
  have T0 := tab3_0
  have neq : ∀ {x : Addr}, (∀ l : List V, H0 x ≠ some (.lst (V.ref q :: l))) → (∀ l, H0 x ≠ some (.lst (V.int 0 :: l))) → ¬ (x = t ∨ x = D) := fun h1 h2 z => z.elim (fun z => h1 [] (by rw [z, et])) fun z => h2 [] (by rw [z, ed])
  obtain ⟨W, hW⟩ : ∃ W : Addr → Prop, ∀ x, W x ↔ (x = t ∨ x = D) ∨ H x ≠ none := ⟨fun x => (x = t ∨ x = D) ∨ H x ≠ none, fun _ => Iff.rfl⟩
  have Wt : ∀ {x : Addr}, x = t → W x := fun h => (hW _).mpr (.inl (.inl h))
  have WD : ∀ {x : Addr}, x = D → W x := fun h => (hW _).mpr (.inl (.inr h))
  have nW : ∀ {x : Addr}, ¬ (x = t ∨ x = D) → H x = none → ¬ W x := fun h1 h3 z => ((hW _).mp z).elim h1 fun z => z h3
  have R0 : ∃ ks : List Addr, H0 t = some (.lst (ks.map V.ref)) ∧ Paired (RowAt W H0) ks [([], [])] := ⟨[q], et, .cons ⟨p1, p2, eq, e1, e2, nW (neq (fun l z => by rw [eq] at z; cases z) (fun l z => by rw [eq] at z; cases z)) (none_of_upd (none_of_upd hq)), nW (neq (fun l z => by rw [e1] at z; cases z) (fun l z => by rw [e1] at z; cases z)) hp1, nW (neq (fun l z => by rw [e2] at z; cases z) (fun l z => by rw [e2] at z; cases z)) (none_of_upd hp2)⟩ .nil⟩
  clear hp1 hp2 hq ht hD et eq e1 e2 neq
  repeat kaf_suf
  have m8 : (if (8 : Int) < (if (4 : Int) > ((ns.map V.int).length : Int) - 0 then 4 else ((ns.map V.int).length : Int) - 0) then (8 : Int) else (if (4 : Int) > ((ns.map V.int).length : Int) - 0 then 4 else ((ns.map V.int).length : Int) - 0)).toNat ≤ 8 := by
    split <;> omega
  generalize (if (8 : Int) < (if (4 : Int) > ((ns.map V.int).length : Int) - 0 then 4 else ((ns.map V.int).length : Int) - 0) then (8 : Int) else (if (4 : Int) > ((ns.map V.int).length : Int) - 0 then 4 else ((ns.map V.int).length : Int) - 0)).toNat = m at m8 ⊢
  refine for_range (lo := 0) (n := m) (fun i σ H' => ∃ (x6 x7 x8 x9 x10 x11 x12 : Option V) (tb : List Gm) (ds : List Int), σ = [some (.ref a), some (.int 0), some (.int 8), some (.int 3), some (.ref t), some (.ref D), x6, x7, x8, x9, x10, x11, x12] ∧ Keep Nil H H' ∧ (∃ ks : List Addr, H' t = some (.lst (ks.map V.ref)) ∧ Paired (RowAt W H') ks tb) ∧ H' D = some (.lst (ds.map V.int)) ∧ Tab3 tb ds ∧ tb.length = 1 + i) ⟨_, _, _, _, _, _, _, [([], [])], [0], rfl, kk, R0, ed, T0, rfl⟩ ?_ ?_
  rotate_left
  · rintro σ H' ⟨x6, x7, x8, x9, x10, x11, x12, tb, ds, rfl, k1, ⟨ks, et, pk⟩, ed, T3, tl⟩
    repeat kaf_suf
    exact k H' t tb ds k1 ht0 ⟨ks, et, paired_keep pk fun w g r => r.mono fun x z => z.elim Wt fun z => (hW _).mpr (.inr z)⟩ T3 (by omega)
  rintro i σ H1 hi ⟨x6, x7, x8, x9, x10, x11, x12, tb, ds, rfl, k1, ⟨ks, et, pk⟩, ed, T3, tl⟩
  clear kk R0 T0
  have dl := T3.dso.1
  have kl := Paired.length pk
  have ekl : (ks.map V.ref).length = tb.length := by rw [List.length_map, kl]
  repeat kaf_suf
  refine ⟨rfl, a, ns, i, by rw [show (0 : Int) + (0 + (i : Int)) = (i : Int) by omega], sq _ k1, few, by omega, fun z => ?_⟩
  repeat kaf_suf
  refine ⟨rfl, z, rfl, fun s H2 hs0 k2 St => ?_⟩
  have k12 := k1.trans k2
  have et2 := k2.get (fun z => z) et
  have ed2 := k2.get (fun z => z) ed
  have nst : s ≠ t := fun z => by rw [← z, hs0] at et; cases et
  have nsD : s ≠ D := fun z => by rw [← z, hs0] at ed; cases ed
  have hsH : H s = none := keep_none k1 hs0
  have pk2 := paired_keep pk fun w g r => RowAt.keep (RowAt.add r hs0) (k2.weak (M := fun x => W x ∨ x = s))
  clear k1 et ed pk k2 hs0
  repeat kaf_suf
  intro Dl hDl
  rw [ekl]
  refine lc_range (lo := 0) (n := (tb.length : Int).toNat) (fun j H' => ∃ ls : List Int, H' Dl = some (.lst (ls.map V.int)) ∧ ls.length ≤ j ∧ (∀ z ∈ ls, 0 ≤ z ∧ z < (tb.length : Int) ∧ ds.getD z.toNat 0 < 3) ∧ (0 < j → ls ≠ []) ∧ Keep Nil H2 H') ⟨[], upd_same, Nat.le_refl _, (fun z h => nomatch h), (fun h => by omega), Keep.alloc hDl⟩ ?_ ?_
  · rintro j H3 hj ⟨ls, e3, ll, lr, l0, k3⟩
    have hj' : j < tb.length := by omega
    have ed3 := k3.get (fun z => z) ed2
    have hat : atI (ds.map V.int) (0 + (j : Int)) = some (.int (ds.getD j 0)) := atI_get (n := j) (by
      rw [List.getElem?_map, List.getElem?_eq_getElem (by omega), List.getD_eq_getElem?_getD, List.getElem?_eq_getElem (by omega)]
      rfl) (by omega)
    repeat kaf_suf
    refine ⟨rfl, ?_⟩
    repeat kaf_suf
    refine r_ite (fun lt => ?_) (fun lt => ?_)
    · repeat kaf_suf
      refine ⟨_, e3, few1 (by rw [List.length_map]; omega), ls ++ [0 + (j : Int)], by rw [List.map_append]; exact upd_same, by rw [List.length_append]; show ls.length + 1 ≤ _; omega, fun z hz => ?_, fun _ => by simp, k3.setN hDl⟩
      rcases List.mem_append.mp hz with hz | hz
      · exact lr z hz
      · rw [List.mem_singleton] at hz
        subst hz
        refine ⟨by omega, by omega, ?_⟩
        rw [show (0 + (j : Int)).toNat = j by omega]
        exact lt
    · refine ⟨ls, e3, by omega, lr, fun _ => l0 ?_, k3⟩
      refine Nat.pos_of_ne_zero fun z => lt ?_
      subst z
      obtain ⟨d, h1, h2, _⟩ := T3.dso.2 0 _ (List.getElem?_eq_getElem hj')
      have lo := T3.low 0 _ (List.getElem?_eq_getElem hj')
      rw [List.getD_eq_getElem?_getD, h1]
      show d < 3
      rcases List.mem_cons.mp h2 with h | h
      · omega
      · obtain ⟨y, hy, _⟩ := List.mem_map.mp h
        have := lo y hy
        omega
  rintro H3 ⟨ls, e3, ll, lr, l0, k3⟩
  have l0 : 0 < ls.length := List.length_pos_iff.mpr (l0 (by have := T3.pos; omega))
  have ll : ls.length ≤ 9 := by omega
  have k13 := k12.trans k3
  have et3 := k3.get (fun z => z) et2
  have ed3 := k3.get (fun z => z) ed2
  have pk3 := paired_keep pk2 fun w g r => RowAt.keep r (k3.weak (M := fun x => W x ∨ x = s))
  have St3 : StA H3 s := by
    obtain ⟨g, z, n, e, h⟩ := St
    exact ⟨g, z, n, k3.get (fun z => z) e, h⟩
  have nDls : Dl ≠ s := by
    obtain ⟨g, z, n, e, h⟩ := St
    exact ne_new hDl e
  clear k12 et2 ed2 pk2 St k3 hDl
  repeat kaf_suf
  intro sl hsl
  have hslH : H sl = none := keep_none k13 hsl
  have k4 : Keep Nil H3 (upd H3 sl (.lst [])) := Keep.alloc hsl
  have esl : (upd H3 sl (.lst [])) sl = some (.lst []) := upd_same
  have nslt : sl ≠ t := ne_new hsl et3
  have nslD : sl ≠ D := ne_new hsl ed3
  have nslw : sl ≠ Dl := ne_new hsl e3
  have nsls : sl ≠ s := by
    obtain ⟨g, z, n, e, h⟩ := St3
    exact ne_new hsl e
  have St4 : StA (upd H3 sl (.lst [])) s := by
    obtain ⟨g, z, n, e, h⟩ := St3
    exact ⟨g, z, n, k4.get (fun z => z) e, h⟩
  have e4 := k4.get (fun z => z) e3
  have et4 := k4.get (fun z => z) et3
  have ed4 := k4.get (fun z => z) ed3
  have k14 := k13.trans k4
  have pk4 := paired_keep pk3 fun w g r => RowAt.keep (RowAt.add r hsl) (k4.weak (M := fun x => (W x ∨ x = s) ∨ x = sl))
  generalize upd H3 sl (.lst []) = H4 at k4 esl St4 e4 et4 ed4 k14 pk4 ⊢
  clear k13 et3 ed3 pk3 St3 e3 hsl k4
  repeat kaf_suf
  refine for_range (lo := 0) (n := (2 : Int).toNat) (fun j σ H' => ∃ (x10 x11 x12 : Option V) (sd : List Addr) (ms : List (List Int)), σ = [some (.ref a), some (.int 0), some (.int 8), some (.int 3), some (.ref t), some (.ref D), some (.int (0 + (i : Int))), some (.ref s), some (.ref Dl), some (.ref sl), x10, x11, x12] ∧ Keep (fun x => x = s ∨ x = sl) H4 H' ∧ StA H' s ∧ H' sl = some (.lst (sd.map V.ref)) ∧ Paired (fun q (m : List Int) => DrL H4 H' (fun x => x = s ∨ x = sl) (fun z => 0 ≤ z ∧ z < (tb.length : Int) ∧ ds.getD z.toNat 0 < 3) q m ∧ m.length ≤ 3) sd ms ∧ ms.length = j) ⟨_, _, _, [], [], rfl, Keep.refl, St4, esl, .nil, rfl⟩ ?_ ?_
  · rintro j σ H5 hj ⟨x10, x11, x12, sd, ms, rfl, k5, St5, esl5, pm, ml⟩
    repeat kaf_suf
    refine ⟨rfl, s, 4, rfl, St5, by decide, wd_small (by decide), fun H6 u k6 St6 u0 u1 => ?_⟩
    repeat kaf_suf
    have hj2 : j < 2 := hj
    have e5 := k5.get (fun z => z.elim nDls fun z => nslw z.symm) e4
    have e6 := k6.get nDls e5
    have k46 : Keep (fun x => x = s ∨ x = sl) H4 H6 := k5.trans (k6.mono fun x z => .inl z)
    have esl6 := k6.get nsls esl5
    have pm6 := paired_keep pm fun q m (r : DrL H4 H5 (fun x => x = s ∨ x = sl) (fun z => 0 ≤ z ∧ z < (tb.length : Int) ∧ ds.getD z.toNat 0 < 3) q m ∧ m.length ≤ 3) => (⟨⟨k6.get (fun z => r.1.2.2.1 (.inl z)) r.1.1, r.1.2⟩, r.2⟩ : DrL H4 H6 (fun x => x = s ∨ x = sl) (fun z => 0 ≤ z ∧ z < (tb.length : Int) ∧ ds.getD z.toNat 0 < 3) q m ∧ m.length ≤ 3)
    clear k5 k6 St5 esl5 pm e5
    intro D0 hD0
    have nD0s : D0 ≠ s := fun z => St6.some_ (z ▸ hD0)
    have nD0sl : D0 ≠ sl := ne_new hD0 esl6
    have nD0l : D0 ≠ Dl := ne_new hD0 e6
    have hD04 : H4 D0 = none := keep_noneM k46 (fun z => z.elim nD0s nD0sl) hD0
    refine lc_range (lo := 0) (n := u.toNat) (fun i2 H' => ∃ us : List Int, H' D0 = some (.lst (us.map V.int)) ∧ us.length = i2 ∧ (∀ z ∈ us, 0 ≤ z ∧ z < (tb.length : Int) ∧ ds.getD z.toNat 0 < 3) ∧ Keep (fun x => x = s) H6 H' ∧ StA H' s) ⟨[], upd_same, rfl, (fun z h => nomatch h), Keep.alloc hD0, St6.keep (Keep.alloc hD0)⟩ ?_ ?_
    · rintro i2 H7 hi2 ⟨us, e7, ul, ur, k7, St7⟩
      have el7 := k7.get nDls e6
      repeat kaf_suf
      refine ⟨rfl, ?_⟩
      repeat kaf_suf
      refine ⟨rfl, s, _, rfl, St7, by rw [List.length_map]; omega, wd_small (by rw [List.length_map]; omega), fun H8 v k8 St8 v0 v1 => ?_⟩
      rw [List.length_map] at v1
      have el8 := k8.get nDls el7
      have e8 := k8.get nD0s e7
      have hat : atI (ls.map V.int) v = some (.int (ls.getD v.toNat 0)) := atI_get (n := v.toNat) (by
        rw [List.getElem?_map, List.getElem?_eq_getElem (by omega), List.getD_eq_getElem?_getD, List.getElem?_eq_getElem (by omega)]
        rfl) (by omega)
      have hin : ls.getD v.toNat 0 ∈ ls := by
        rw [List.getD_eq_getElem?_getD, List.getElem?_eq_getElem (by omega)]
        exact List.getElem_mem _
      repeat kaf_suf
      refine ⟨_, e8, few1 (by rw [List.length_map]; omega), us ++ [ls.getD v.toNat 0], by rw [List.map_append]; exact upd_same, by rw [List.length_append, ul]; rfl, fun z hz => ?_, ?_, ?_⟩
      · rcases List.mem_append.mp hz with hz | hz
        · exact ur z hz
        · rw [List.mem_singleton] at hz
          subst hz
          exact lr _ hin
      · exact (k7.trans k8).setN hD0
      · exact St8.keepN (Keep.refl.set rfl : Keep (fun x => x = D0) H8 _) fun z => nD0s z.symm
    · rintro H7 ⟨us, e7, ul, ur, k7, St7⟩
      have esl7 := k7.get nsls esl6
      have pl := Paired.length pm6
      repeat kaf_suf
      have k9 : Keep (fun x => x = s ∨ x = sl) H4 (upd H7 sl (.lst (sd.map V.ref ++ [V.ref D0]))) := (k46.trans (k7.mono fun x z => .inl z)).set (.inr rfl)
      refine ⟨_, _, _, sd ++ [D0], ms ++ [us], rfl, k9, St7.keepN (Keep.refl.set rfl : Keep (fun x => x = sl) H7 _) (fun z => nsls z.symm), by rw [List.map_append]; exact upd_same, Paired.snoc (paired_keep pm6 fun q m (r : DrL H4 H6 (fun x => x = s ∨ x = sl) (fun z => 0 ≤ z ∧ z < (tb.length : Int) ∧ ds.getD z.toNat 0 < 3) q m ∧ m.length ≤ 3) => (⟨⟨get_set (fun z => r.1.2.2.1 (.inr z)) (k7.get (fun z => r.1.2.2.1 (.inl z)) r.1.1), r.1.2⟩, r.2⟩ : DrL H4 _ (fun x => x = s ∨ x = sl) (fun z => 0 ≤ z ∧ z < (tb.length : Int) ∧ ds.getD z.toNat 0 < 3) q m ∧ m.length ≤ 3)) ⟨⟨get_set nD0sl e7, hD04, (fun z => z.elim nD0s nD0sl), ur⟩, by omega⟩, by rw [List.length_append, ml]; rfl⟩
  · rintro σ H5 ⟨x10, x11, x12, sd, ms, rfl, k5, St5, esl5, pm, ml⟩
    have ml2 : ms.length = 2 := ml
    obtain ⟨q1, q2, m1, m2, rfl, rfl, ⟨⟨f1, g1, n1, r1⟩, l1⟩, ⟨⟨f2, g2, n2, r2⟩, l2⟩⟩ := paired_two pm ml2
    have esl5 : H5 sl = some (.lst [V.ref q1, V.ref q2]) := esl5
    have et5 := k5.get (fun z => z.elim (fun z => nst z.symm) fun z => nslt z.symm) et4
    have ed5 := k5.get (fun z => z.elim (fun z => nsD z.symm) fun z => nslD z.symm) ed4
    have pk5 := paired_keep pk4 fun w g r => RowAt.keep r (k5.mono (fun x z => z.elim (fun z => .inl (.inr z)) fun z => .inr z) : Keep (fun x => (W x ∨ x = s) ∨ x = sl) H4 H5)
    have pk5 : Paired (RowAt W H5) ks tb := paired_keep pk5 fun w g r => r.mono fun x z => .inl (.inl z)
    have k15 : Keep Nil H H5 := fun x o n h => k5 x o (fun z => z.elim (fun z => by rw [z, hsH] at h; cases h) fun z => by rw [z, hslH] at h; cases h) (k14 x o n h)
    have nq1 : ¬ (q1 = t ∨ q1 = D) := fun z => z.elim (fun z => by rw [← z, g1] at et4; cases et4) fun z => by rw [← z, g1] at ed4; cases ed4
    have nq2 : ¬ (q2 = t ∨ q2 = D) := fun z => z.elim (fun z => by rw [← z, g2] at et4; cases et4) fun z => by rw [← z, g2] at ed4; cases ed4
    have nq1W : ¬ W q1 := nW nq1 (keep_none k14 g1)
    have nq2W : ¬ W q2 := nW nq2 (keep_none k14 g2)
    clear k5 k14 et4 ed4 pk4 St5 esl St4 g1 g2 pm e4
    repeat kaf_suf
    intro w hw
    repeat kaf_suf
    have nwt : w ≠ t := ne_new hw et5
    have nwD : w ≠ D := ne_new hw ed5
    have kb : Keep (fun x => x = t) H5 (upd (upd H5 w (.tup [.ref q1, .ref q2])) t (.lst (ks.map V.ref ++ [.ref w]))) := (Keep.alloc hw).set rfl
    have etb : (upd (upd H5 w (.tup [.ref q1, .ref q2])) t (.lst (ks.map V.ref ++ [.ref w]))) t = some (.lst ((ks ++ [w]).map V.ref)) := by rw [List.map_append]; exact upd_same
    have ewb : (upd (upd H5 w (.tup [.ref q1, .ref q2])) t (.lst (ks.map V.ref ++ [.ref w]))) w = some (.tup [.ref q1, .ref q2]) := get_set nwt upd_same
    have kHb : Keep Nil H (upd (upd H5 w (.tup [.ref q1, .ref q2])) t (.lst (ks.map V.ref ++ [.ref w]))) := (k15.new hw).setN ht0
    generalize upd (upd H5 w (.tup [.ref q1, .ref q2])) t (.lst (ks.map V.ref ++ [.ref w])) = Hb at kb etb ewb kHb ⊢
    have eslb := kb.get nslt esl5
    have edb := kb.get nDt ed5
    have f1b := kb.get (fun z => nq1 (.inl z)) f1
    have f2b := kb.get (fun z => nq2 (.inl z)) f2
    have pkb : Paired (RowAt W Hb) (ks ++ [w]) (tb ++ [(m1, m2)]) := Paired.snoc (paired_keep pk5 fun w g r => RowAt.keep r (kb.mono fun x z => Wt z)) ⟨q1, q2, ewb, f1b, f2b, nW (fun z => z.elim nwt nwD) (keep_none k15 hw), nq1W, nq2W⟩
    clear kb ewb et5 ed5 f1 f2 pk5 esl5 k15 hw
    intro z0 hz0
    have k1 : Keep Nil Hb (upd Hb z0 (.lst [.int 0])) := Keep.alloc hz0
    have ez0 : (upd Hb z0 (.lst [.int 0])) z0 = some (.lst [.int 0]) := upd_same
    generalize upd Hb z0 (.lst [.int 0]) = Hc at k1 ez0 ⊢
    have eslc := k1.get (fun z => z) eslb
    have f1c := k1.get (fun z => z) f1b
    have f2c := k1.get (fun z => z) f2b
    repeat kaf_suf
    intro y hy
    have k2 : Keep Nil Hb (upd Hc y (.lst (m1.map V.int ++ m2.map V.int))) := k1.new hy
    have ey : (upd Hc y (.lst (m1.map V.int ++ m2.map V.int))) y = some (.lst ((m1 ++ m2).map V.int)) := by rw [List.map_append]; exact upd_same
    have ez1 := get_new (u := .lst (m1.map V.int ++ m2.map V.int)) hy ez0
    generalize upd Hc y (.lst (m1.map V.int ++ m2.map V.int)) = Hd at k2 ey ez1 ⊢
    clear hz0 k1 ez0 eslc f1c f2c hy
    have nd : ∀ z ∈ m1 ++ m2, 0 ≤ z ∧ z < (tb.length : Int) ∧ ds.getD z.toNat 0 < 3 := fun z hz => (List.mem_append.mp hz).elim (r1 z) (r2 z)
    have mm6 : (m1 ++ m2).length ≤ 6 := by rw [List.length_append]; omega
    have edd := k2.get (fun z => z) edb
    repeat kaf_suf
    intro D9 hD9
    refine lc_list (xs := (m1 ++ m2).map V.int) (fun j H3 => H3 D9 = some (.lst ((((m1 ++ m2).map fun z => 1 + ds.getD z.toNat 0).take j).map V.int)) ∧ Keep Nil Hd H3) ⟨upd_same, Keep.alloc hD9⟩ ?_ ?_ ?_
    · rintro j H3 _ ⟨_, k3⟩; exact SqL.of (k3.get (fun z => z) ey)
    · rintro j x H3 hj ⟨w3, k3⟩
      rw [List.getElem?_map] at hj
      obtain ⟨z, hm, rfl⟩ := Option.map_eq_some_iff.mp hj
      obtain ⟨y0, y1, _⟩ := nd z (List.mem_of_getElem? hm)
      have hm' := (List.getElem?_eq_some_iff.mp hm).1
      have ed3 := k3.get (fun z => z) edd
      have hat : atI (ds.map V.int) z = some (.int (ds.getD z.toNat 0)) := atI_get (n := z.toNat) (by
        rw [List.getElem?_map, List.getElem?_eq_getElem (by omega), List.getD_eq_getElem?_getD, List.getElem?_eq_getElem (by omega)]
        rfl) (by omega)
      repeat kaf_suf
      refine ⟨rfl, ?_⟩
      repeat kaf_suf
      refine ⟨_, w3, few1 (by simp only [List.length_map, List.length_take]; omega), ?_, k3.setN hD9⟩
      have ee : ((m1 ++ m2).map fun z => 1 + ds.getD z.toNat 0)[j]? = some (1 + ds.getD z.toNat 0) := by rw [List.getElem?_map, hm]; rfl
      generalize ((m1 ++ m2).map fun z => 1 + ds.getD z.toNat 0) = L at ee ⊢
      rw [upd_same, List.take_succ, ee]
      simp
    rintro H3 ⟨w3, k3⟩
    have w4 : H3 D9 = some (.lst (((m1 ++ m2).map fun z => 1 + ds.getD z.toNat 0).map V.int)) := by
      rw [w3, List.take_of_length_le (by rw [List.length_map, List.length_map]; exact Nat.le_refl _)]
    have hz3 := k3.get (fun z => z) ez1
    refine v_addL hz3 w4 (few2 (by simp only [List.length_map, List.length_cons, List.length_nil]; omega)) fun y2 hy2 => ?_
    repeat kaf_suf
    refine v_maxL (ns := 0 :: (m1 ++ m2).map fun z => 1 + ds.getD z.toNat 0) upd_same (by simp) fun d hm hmax => ?_
    have kF : Keep Nil Hb (upd H3 y2 (.lst ([V.int 0] ++ ((m1 ++ m2).map fun z => 1 + ds.getD z.toNat 0).map V.int))) := (k2.trans k3).new hy2
    generalize upd H3 y2 (.lst ([V.int 0] ++ ((m1 ++ m2).map fun z => 1 + ds.getD z.toNat 0).map V.int)) = HF at kF ⊢
    have edF := kF.get (fun z => z) edb
    have etF := kF.get (fun z => z) etb
    have pkF := paired_keep pkb fun w g r => RowAt.keep r ((kF.weak (M := W)))
    repeat kaf_suf
    have kG : Keep W HF (upd HF D (.lst (ds.map V.int ++ [.int d]))) := Keep.refl.set (WD rfl)
    exact ⟨_, _, _, _, _, _, _, tb ++ [(m1, m2)], ds ++ [d], rfl, (kHb.trans kF).setN hD0, ⟨ks ++ [w], get_set nDt.symm etF, paired_keep pkF fun w g r => RowAt.keep r kG⟩, by rw [List.map_append]; exact upd_same, T3.push nd ⟨l1, l2⟩ hm hmax, by rw [List.length_append, tl]; show _ = 1 + (i + 1); rw [List.length_singleton]; omega⟩
theorem cal_law_games {c : Cn} {mg : Str → Option Value} {base : Heap} (T : Txt c mg) : Cal c.P c.w c.K mg base CX0 4 "_law_games" (sp_law_games c) := by
  obtain ⟨f, fd, F, g, b⟩ := T.F_law_games
  exact ⟨f, fd, ["script", "begin", "most", "deepest"], F.ok (k := 3) (N := N_law_games) sc_law_games (fun vs H Q E h => h.1) (fun cdv A outer s H vs Q E hr h => ⟨t_law_games c, by
  exact (pss_cons (ps_set (i := 4) sc_law_games.nd rfl (Or.inl rfl) (pe_lst (pa_cons (pe_tup (pa_cons (pe_lst pa_nil) (pa_cons (pe_lst pa_nil) pa_nil))) pa_nil)))
  (pss_cons (ps_set (i := 5) sc_law_games.nd rfl (Or.inr rfl) (pe_lst (pa_cons pe_int pa_nil)))
  (pss_cons (ps_for PassesOwn.never rfl (pi_range1 rfl T.n_range (pa_cons (pe_callB (k_min rfl) (by rfl) T.n_min (by decide +kernel) (pa_cons (pe_callB (k_max rfl) (by rfl) T.n_max (by decide +kernel) (pa_cons (pe_op o_sub (pe_callB k_len (by rfl) T.n_len (by decide +kernel) (pa_cons (pv 0) pa_nil)) (pv 1)) (pa_cons pe_int pa_nil))) (pa_cons (pv 2) pa_nil))) pa_nil)) (pg_name (i := 6) sc_law_games.nd rfl (Or.inl rfl))
  (pss_cons (ps_set (i := 7) sc_law_games.nd rfl (Or.inr rfl) (e_call (cal_law_store T) hr (by decide) pass0 rfl (pa_cons (e_call (cal_law_cell T) hr (by decide) pass0 rfl (pa_cons (pv 0) (pa_cons (pe_op o_add (pv 1) (pv 6)) pa_nil))) pa_nil)))
  (pss_cons (ps_set (i := 8) sc_law_games.nd rfl (Or.inr rfl) (pe_lc (own := [("at", 11)]) rfl sc_law_games.nd (pi_range1 rfl T.n_range (pa_cons (pe_callB k_len (by rfl) T.n_len (by decide +kernel) (pa_cons (pv 4) pa_nil)) pa_nil)) (blkOk_by (own := [("at", 11)]) (N := N_law_games) (sc := defScope s_law_games) (by decide +kernel)) (fun _ _ _ _ _ => (pg_name (i := 11) sc_law_games.nd rfl (Or.inl rfl))) (fun _ _ _ _ _ => (pts_one (pt_cmpR (o_lt (hu64 hr)) (pe_ix (x_ix (hu64 hr)) (pv 5) (pv 11) (fun _ _ => rfl)) (pv 3) (nomark _)))) (fun _ _ _ _ _ => (pv 11))))
  (pss_cons (ps_set (i := 9) sc_law_games.nd rfl (Or.inl rfl) (pe_lst pa_nil))
  (pss_cons (ps_for PassesOwn.never rfl (pi_range1 rfl T.n_range (pa_cons pe_int pa_nil)) (pg_name (i := 10) sc_law_games.nd rfl (Or.inl rfl))
  (pss_one (ps_expr (pe_bm PySem.F.plainAttrs_list PySem.F.slot_list_append PySem.F.type_list_append mt_append (pv 9) (pa_cons (pe_lc (own := [("j", 12)]) rfl sc_law_games.nd (pi_range1 rfl T.n_range (pa_cons (e_call (cal_law_take T) hr (by decide) pass0 rfl (pa_cons (pv 7) (pa_cons pe_int pa_nil))) pa_nil)) (blkOk_by (own := [("j", 12)]) (N := N_law_games) (sc := defScope s_law_games) (by decide +kernel)) (fun _ _ _ _ _ => (pg_name (i := 12) sc_law_games.nd rfl (Or.inl rfl))) (fun _ _ _ _ _ => pts_nil) (fun _ _ _ _ _ => (pe_ix (x_ix (hu64 hr)) (pv 8) (e_call (cal_law_take T) hr (by decide) pass0 rfl (pa_cons (pv 7) (pa_cons (pe_callB k_len (by rfl) T.n_len (by decide +kernel) (pa_cons (pv 8) pa_nil)) pa_nil))) (fun _ _ => rfl)))) pa_nil)))))
  (pss_cons (ps_expr (pe_bm PySem.F.plainAttrs_list PySem.F.slot_list_append PySem.F.type_list_append mt_append (pv 4) (pa_cons (pe_tup (pa_cons (pe_ix (x_ix (hu64 hr)) (pv 9) pe_int (fun _ _ => rfl)) (pa_cons (pe_ix (x_ix (hu64 hr)) (pv 9) pe_int (fun _ _ => rfl)) pa_nil))) pa_nil)))
  (pss_one (ps_expr (pe_bm PySem.F.plainAttrs_list PySem.F.slot_list_append PySem.F.type_list_append mt_append (pv 5) (pa_cons (pe_callB (k_max rfl) (by rfl) T.n_max (by decide +kernel) (pa_cons (pe_op o_add (pe_lst (pa_cons pe_int pa_nil)) (pe_lc (own := [("at", 11)]) rfl sc_law_games.nd (pi_any (pe_op o_add (pe_ix (x_ix (hu64 hr)) (pv 9) pe_int (fun _ _ => rfl)) (pe_ix (x_ix (hu64 hr)) (pv 9) pe_int (fun _ _ => rfl)))) (blkOk_by (own := [("at", 11)]) (N := N_law_games) (sc := defScope s_law_games) (by decide +kernel)) (fun _ _ _ _ _ => (pg_name (i := 11) sc_law_games.nd rfl (Or.inl rfl))) (fun _ _ _ _ _ => pts_nil) (fun _ _ _ _ _ => (pe_op o_add pe_int (pe_ix (x_ix (hu64 hr)) (pv 5) (pv 11) (fun _ _ => rfl)))))) pa_nil)) pa_nil))))))))))
  (pss_one (ps_ret (pv 4)))))), p_law_games T h⟩), g, F.kp, b⟩

abbrev N_law_more : List Str := ["store", "table", "rows", "depths", "lefts", "rights", "low", "sides", "turn", "k", "at", "j"]
theorem sc_law_more : FnScope N_law_more ["store", "table", "rows"] (defScope s_law_more) := ⟨rfl, rfl, rfl, by decide +kernel, rfl, by decide +kernel, by decide +kernel⟩
def t_law_more (c : Cn) : TS :=
  (tSeq (tAsg (tLst tNil) (gName 3))
  (tSeq (tFor (iAny c.K (tVar 1)) (gSeq c.K 2 (gCons (gName 4) (gCons (gName 5) gNil)))
  (tDrop (tBM c.K "list" rAppend (tVar 3) (tCons (tCB (kMax c.K) (tCons (tOp (bAdd c.K) (tLst (tCons (tC (.int 0)) tNil)) (tLc (iAny c.K (tOp (bAdd c.K) (tVar 4) (tVar 5))) (gName 10) tYes (tOp (bAdd c.K) (tC (.int 1)) (tOp (bIx c.P c.w c.K) (tVar 3) (tVar 10))) [10])) tNil)) tNil))))
  (tSeq (tAsg (tLc (iRng1 (tCons (tCB (kLen c.K) (tCons (tVar 1) tNil)) tNil)) (gName 10) (tTest (tOp (cLt c.K) (tOp (bIx c.P c.w c.K) (tVar 3) (tVar 10)) (tC (.int 3)))) (tVar 10) [10]) (gName 6))
  (tSeq (tAsg (tLst tNil) (gName 7))
  (tSeq (tFor (iRng1 (tCons (tC (.int 2)) tNil)) (gName 8)
  (tDrop (tBM c.K "list" rAppend (tVar 7) (tCons (tLc (iRng1 (tCons (tCall (sp_law_take c) [] E0 (tCons (tVar 0) (tCons (tC (.int 9)) tNil))) tNil)) (gName 11) tYes (tOp (bIx c.P c.w c.K) (tVar 6) (tCall (sp_law_take c) [] E0 (tCons (tVar 0) (tCons (tCB (kLen c.K) (tCons (tVar 6) tNil)) tNil)))) [11]) tNil))))
  (tSeq (tDrop (tBM c.K "list" rAppend (tVar 1) (tCons (tTup (tCons (tOp (bIx c.P c.w c.K) (tVar 7) (tC (.int 0))) (tCons (tOp (bIx c.P c.w c.K) (tVar 7) (tC (.int 1))) tNil))) tNil)))
  (tFor (iRng1 (tCons (tVar 2) tNil)) (gName 9)
  (tSeq (tAsg (tLst (tCons (tLst (tCons (tOp bSub (tCB (kLen c.K) (tCons (tVar 1) tNil)) (tC (.int 1))) tNil)) (tCons (tLst tNil) tNil))) (gName 7))
  (C8.tCut (tIfS (tTest (tOp (cEq c.K) (tCall (sp_law_take c) [] E0 (tCons (tVar 0) (tCons (tC (.int 2)) tNil))) (tC (.int 0))))
  (tDrop (tBM c.K "list" rAppend (tOp (bIx c.P c.w c.K) (tVar 7) (tCall (sp_law_take c) [] E0 (tCons (tVar 0) (tCons (tC (.int 2)) tNil)))) (tCons (tOp (bIx c.P c.w c.K) (tVar 6) (tCall (sp_law_take c) [] E0 (tCons (tVar 0) (tCons (tCB (kLen c.K) (tCons (tVar 6) tNil)) tNil)))) tNil)))
  tNext)
  (tSeq (tAsg (tCall (sp_law_take c) [] E0 (tCons (tVar 0) (tCons (tC (.int 2)) tNil))) (gName 8))
  (tDrop (tBM c.K "list" rAppend (tVar 1) (tCons (tTup (tCons (tOp (bIx c.P c.w c.K) (tVar 7) (tVar 8)) (tCons (tOp (bIx c.P c.w c.K) (tVar 7) (tOp bSub (tC (.int 1)) (tVar 8))) tNil))) tNil)))))))))))))
def fB (d : Int) : Nat := if d ≤ 0 then 3 else if d ≤ 1 then 27 else if d ≤ 2 then 171 else 1035
theorem fB_up {d e : Int} (h : d ≤ e) : fB d ≤ fB e := by
  unfold fB
  split <;> split <;> (try split) <;> (try split) <;> (try split) <;> (try split) <;> omega
theorem fB_step {d : Int} (h0 : 1 ≤ d) (h1 : d ≤ 3) : 6 * (fB (d - 1) + 1) + 3 ≤ fB d := by
  have : d = 1 ∨ d = 2 ∨ d = 3 := by omega
  rcases this with rfl | rfl | rfl <;> decide
theorem fB_pos (d : Int) : 3 ≤ fB d ∧ fB d ≤ 1035 := by
  unfold fB; split <;> (try split) <;> (try split) <;> omega
theorem fB_low {d : Int} (h : d < 3) : fB d ≤ 171 := fB_up (show d ≤ 2 by omega)
theorem sum_bd {α : Type} {g : α → Nat} {n : Nat} : ∀ {l : List α}, (∀ x ∈ l, g x ≤ n) → (l.map g).sum ≤ l.length * n
  | [], _ => by simp
  | x :: r, h => by
    have := sum_bd (l := r) fun y hy => h y (List.mem_cons_of_mem _ hy)
    have := h x List.mem_cons_self
    simp only [List.map_cons, List.sum_cons, List.length_cons, Nat.succ_mul]
    omega
theorem getD_map {ds : List Int} {i : Nat} (h : i < ds.length) : (ds.map fB).getD i 0 = fB (ds.getD i 0) := by
  rw [List.getD_eq_getElem?_getD, List.getD_eq_getElem?_getD, List.getElem?_map, List.getElem?_eq_getElem h]
  rfl
theorem Tab3.lenOk {tb : List Gm} {ds : List Int} (h : Tab3 tb ds) : LenOk tb (ds.map fB) := by
  refine ⟨by rw [List.length_map, h.dso.1], fun i row hr => ?_⟩
  obtain ⟨d, e, m, mx⟩ := h.dso.2 i row hr
  have lo := h.low i row hr
  have hi := (List.getElem?_eq_some_iff.mp hr).1
  obtain ⟨f1, f2⟩ := h.few row (List.mem_of_getElem? hr)
  have dr := h.dp d (List.mem_of_getElem? e)
  refine ⟨fB d, by rw [List.getElem?_map, e]; rfl, ?_, by have := (fB_pos d).2; omega⟩
  have dl := h.dso.1
  by_cases n : row.1 ++ row.2 = []
  · rw [n]
    have := (fB_pos d).1
    simpa using this
  · obtain ⟨z, hz⟩ := List.exists_mem_of_ne_nil _ n
    have d1 : 1 ≤ d := by
      have h1 := mx _ (List.mem_cons_of_mem _ (List.mem_map.mpr ⟨z, hz, rfl⟩))
      have hz := lo z hz
      have h2 := h.dp (ds.getD z.toNat 0) (by rw [List.getD_eq_getElem?_getD, List.getElem?_eq_getElem (by omega)]; exact List.getElem_mem _)
      omega
    have s1 := sum_bd (l := row.1 ++ row.2) (g := fun z => (ds.map fB).getD z.toNat 0 + 1) (n := fB (d - 1) + 1) fun z hz => by
      have h1 := mx _ (List.mem_cons_of_mem _ (List.mem_map.mpr ⟨z, hz, rfl⟩))
      have hz := lo z hz
      show (ds.map fB).getD z.toNat 0 + 1 ≤ _
      rw [getD_map (by omega)]
      have := fB_up (show ds.getD z.toNat 0 ≤ d - 1 by omega)
      omega
    have s2 : (row.1 ++ row.2).length * (fB (d - 1) + 1) ≤ 6 * (fB (d - 1) + 1) := Nat.mul_le_mul_right _ (by rw [List.length_append]; omega)
    have := fB_step d1 dr.2
    omega
theorem LenOk.push {tb : List Gm} {lb : List Nat} (h : LenOk tb lb) (low : ∀ (i : Nat) (row : Gm), tb[i]? = some row → ∀ z ∈ row.1 ++ row.2, 0 ≤ z ∧ z < i) {row : Gm} {b : Nat} (lr : ∀ z ∈ row.1 ++ row.2, 0 ≤ z ∧ z < tb.length) (hb : ((row.1 ++ row.2).map fun z => lb.getD z.toNat 0 + 1).sum + 3 ≤ b) (b9 : b ≤ 9000) : LenOk (tb ++ [row]) (lb ++ [b]) := by
  obtain ⟨h1, h2⟩ := h
  have e : ∀ l : List Int, (∀ z ∈ l, 0 ≤ z ∧ z < (tb.length : Int)) → (l.map fun z => (lb ++ [b]).getD z.toNat 0 + 1) = l.map fun z => lb.getD z.toNat 0 + 1 := fun l hl => List.map_congr_left fun z hz => by
    rw [getD_app]
    have := hl z hz; omega
  refine ⟨by rw [List.length_append, List.length_append, h1]; rfl, fun i r hi => ?_⟩
  by_cases c : i < tb.length
  · rw [List.getElem?_append_left c] at hi
    obtain ⟨b', k1, k2, k3⟩ := h2 i r hi
    have lo := low i r hi
    rw [e _ fun z hz => by have := lo z hz; omega]
    exact ⟨b', by rw [List.getElem?_append_left (by omega)]; exact k1, k2, k3⟩
  · have hl := (List.getElem?_eq_some_iff.mp hi).1
    rw [List.length_append] at hl
    have hl : i < tb.length + 1 := hl
    have ei : i = tb.length := by omega
    subst ei
    rw [List.getElem?_append_right (Nat.le_refl _), Nat.sub_self] at hi
    cases hi
    rw [e _ lr]
    exact ⟨b, by rw [← h1, List.getElem?_append_right (Nat.le_refl _), Nat.sub_self]; rfl, hb, b9⟩
/-- a table and its bounds -/
structure TabL (tb : List Gm) (lb : List Nat) : Prop where
  low : ∀ (i : Nat) (row : Gm), tb[i]? = some row → ∀ z ∈ row.1 ++ row.2, 0 ≤ z ∧ z < i
  few : ∀ row ∈ tb, row.1.length ≤ 8 ∧ row.2.length ≤ 8
  lok : LenOk tb lb
theorem TabL.push {tb : List Gm} {lb : List Nat} (h : TabL tb lb) {row : Gm} {b : Nat} (lr : ∀ z ∈ row.1 ++ row.2, 0 ≤ z ∧ z < tb.length) (f : row.1.length ≤ 8 ∧ row.2.length ≤ 8) (hb : ((row.1 ++ row.2).map fun z => lb.getD z.toNat 0 + 1).sum + 3 ≤ b) (b9 : b ≤ 9000) : TabL (tb ++ [row]) (lb ++ [b]) := by
  refine ⟨fun i r hi z hz => ?_, fun r hr => ?_, h.lok.push h.low lr hb b9⟩
  · by_cases c : i < tb.length
    · rw [List.getElem?_append_left c] at hi
      exact h.low i r hi z hz
    · have hl := (List.getElem?_eq_some_iff.mp hi).1
      rw [List.length_append] at hl
      have hl : i < tb.length + 1 := hl
      have ei : i = tb.length := by omega
      subst ei
      rw [List.getElem?_append_right (Nat.le_refl _), Nat.sub_self] at hi
      cases hi
      exact lr z hz
  · rcases List.mem_append.mp hr with hr | hr
    · exact h.few r hr
    · rw [List.mem_singleton] at hr
      subst hr; exact f
theorem mx_uniq {l : List Int} {a b : Int} (a1 : a ∈ l) (a2 : ∀ y ∈ l, y ≤ a) (b1 : b ∈ l) (b2 : ∀ y ∈ l, y ≤ b) : a = b := by
  have := a2 b b1
  have := b2 a a1
  omega
def sp_law_more (c : Cn) : Sp := fun vs H Q E => vs.length = 3 ∧ ∃ (a t : Addr) (r : Int) (tb : List Gm) (ds : List Int) (W : Addr → Prop), vs = [.ref a, .ref t, .int r] ∧ 0 ≤ r ∧ r ≤ 30 ∧ StA H a ∧ RowsAt W H t tb ∧ W a ∧ W t ∧ (∀ x, W x → x = a ∨ x = t ∨ H x ≠ none) ∧ a ≠ t ∧ Tab3 tb ds ∧ tb.length ≤ 9 ∧
  ∀ (H' : Hp) (tb' : List Gm) (lb : List Nat), Keep (fun x => x = a ∨ x = t) H H' → StA H' a → RowsAt W H' t tb' → TabOk tb' → LenOk tb' lb → (∀ b ∈ lb, (b : Int) ≤ 2755 + 176 * r) → 0 < tb'.length → Q .non H'
theorem p_law_more {c : Cn} {mg : Str → Option Value} (T : Txt c mg) {vs : List V} {H : Hp} {Q : VK} {E : XK} (h : sp_law_more c vs H Q E) : t_law_more c { nx := fun _ H' => Q .non H', rt := Q } (start N_law_more vs) H := by
  obtain ⟨_, a, t, r, tb, ds, W, rfl, r0, r1, St, ⟨ks, et, pk⟩, Wa, Wt, Wn, nat_, T3, tl, k⟩ := h
  have nW : ∀ {x : Addr}, x ≠ a → x ≠ t → H x = none → ¬ W x := fun h1 h2 h3 z => (Wn _ z).elim h1 fun z => z.elim h2 fun z => z h3
  have eqW : ∀ {x y : Addr}, x = y → W y → W x := fun h k => h ▸ k
  have dl := T3.dso.1
  have kl := Paired.length pk
  have ekl : (ks.map V.ref).length = tb.length := by rw [List.length_map, kl]
  unfold t_law_more
  repeat kaf_suf
  intro D hD
  have k1 : Keep Nil H (upd H D (.lst [])) := Keep.alloc hD
  have e1 : (upd H D (.lst [])) D = some (.lst []) := upd_same
  generalize upd H D (.lst []) = H1 at k1 e1 ⊢
  have et1 := k1.get (fun z => z) et
  repeat kaf_suf
  refine for_list (xs := ks.map V.ref) (fun j σ H' => ∃ (x4 x5 x6 x7 x8 x9 x10 x11 : Option V), σ = [some (.ref a), some (.ref t), some (.int r), some (.ref D), x4, x5, x6, x7, x8, x9, x10, x11] ∧ Keep Nil H H' ∧ H' D = some (.lst ((ds.take j).map V.int))) ⟨_, _, _, _, _, _, _, _, rfl, k1, e1⟩ ?_ ?_ ?_
  · rintro j σ H' _ ⟨_, _, _, _, _, _, _, _, _, k1, _⟩
    exact SqL.of (k1.get (fun z => z) et)
  · rintro j x σ H2 hj ⟨x4, x5, x6, x7, x8, x9, x10, x11, rfl, k2, e2⟩
    rw [List.getElem?_map] at hj
    obtain ⟨w, hw, rfl⟩ := Option.map_eq_some_iff.mp hj
    obtain ⟨row, hrow, p, q, ew, ep, eq, _⟩ := paired_get' pk hw
    have hjl := (List.getElem?_eq_some_iff.mp hrow).1
    obtain ⟨f1, f2⟩ := T3.few row (List.mem_of_getElem? hrow)
    have lo := T3.low _ row hrow
    obtain ⟨d, hd, dm, dx⟩ := T3.dso.2 j row hrow
    have ew2 := k2.get (fun z => z) ew
    have ep2 := k2.get (fun z => z) ep
    have eq2 := k2.get (fun z => z) eq
    repeat kaf_suf
    intro z0 hz0
    have k3 : Keep Nil H2 (upd H2 z0 (.lst [.int 0])) := Keep.alloc hz0
    have ez0 : (upd H2 z0 (.lst [.int 0])) z0 = some (.lst [.int 0]) := upd_same
    have epc := k3.get (fun z => z) ep2
    have eqc := k3.get (fun z => z) eq2
    generalize upd H2 z0 (.lst [.int 0]) = Hc at k3 ez0 epc eqc ⊢
    repeat kaf_suf
    intro y hy
    have k4 : Keep Nil H2 (upd Hc y (.lst (row.1.map V.int ++ row.2.map V.int))) := k3.new hy
    have ey : (upd Hc y (.lst (row.1.map V.int ++ row.2.map V.int))) y = some (.lst ((row.1 ++ row.2).map V.int)) := by rw [List.map_append]; exact upd_same
    have ez1 := get_new (u := .lst (row.1.map V.int ++ row.2.map V.int)) hy ez0
    generalize upd Hc y (.lst (row.1.map V.int ++ row.2.map V.int)) = Hd at k4 ey ez1 ⊢
    clear hz0 k3 ez0 epc eqc hy
    have mm6 : (row.1 ++ row.2).length ≤ 6 := by rw [List.length_append]; omega
    have edd := k4.get (fun z => z) e2
    repeat kaf_suf
    intro D9 hD9
    refine lc_list (xs := (row.1 ++ row.2).map V.int) (fun i H3 => H3 D9 = some (.lst ((((row.1 ++ row.2).map fun z => 1 + ds.getD z.toNat 0).take i).map V.int)) ∧ Keep Nil Hd H3) ⟨upd_same, Keep.alloc hD9⟩ ?_ ?_ ?_
    · rintro i H3 _ ⟨_, k3⟩; exact SqL.of (k3.get (fun z => z) ey)
    · rintro i x H3 hi ⟨w3, k3⟩
      rw [List.getElem?_map] at hi
      obtain ⟨z, hm, rfl⟩ := Option.map_eq_some_iff.mp hi
      obtain ⟨y0, y1⟩ := lo z (List.mem_of_getElem? hm)
      have hm' := (List.getElem?_eq_some_iff.mp hm).1
      have ed3 := k3.get (fun z => z) edd
      have hat : atI ((ds.take j).map V.int) z = some (.int (ds.getD z.toNat 0)) := atI_get (n := z.toNat) (by
        rw [List.getElem?_map, List.getElem?_take_of_lt (by omega), List.getElem?_eq_getElem (by omega), List.getD_eq_getElem?_getD, List.getElem?_eq_getElem (by omega)]
        rfl) (by omega)
      repeat kaf_suf
      refine ⟨rfl, ?_⟩
      repeat kaf_suf
      refine ⟨_, w3, few1 (by simp only [List.length_map, List.length_take]; omega), ?_, k3.setN hD9⟩
      have ee : ((row.1 ++ row.2).map fun z => 1 + ds.getD z.toNat 0)[i]? = some (1 + ds.getD z.toNat 0) := by rw [List.getElem?_map, hm]; rfl
      generalize ((row.1 ++ row.2).map fun z => 1 + ds.getD z.toNat 0) = L at ee ⊢
      rw [upd_same, List.take_succ, ee]
      simp
    rintro H3 ⟨w3, k3⟩
    have w4 : H3 D9 = some (.lst (((row.1 ++ row.2).map fun z => 1 + ds.getD z.toNat 0).map V.int)) := by
      rw [w3, List.take_of_length_le (by rw [List.length_map, List.length_map]; exact Nat.le_refl _)]
    have hz3 := k3.get (fun z => z) ez1
    refine v_addL hz3 w4 (few2 (by simp only [List.length_map, List.length_cons, List.length_nil]; omega)) fun y2 hy2 => ?_
    repeat kaf_suf
    refine v_maxL (ns := 0 :: (row.1 ++ row.2).map fun z => 1 + ds.getD z.toNat 0) upd_same (by simp) fun d' hm hmax => ?_
    obtain rfl : d' = d := mx_uniq hm hmax dm dx
    have kF : Keep Nil H2 (upd H3 y2 (.lst ([V.int 0] ++ ((row.1 ++ row.2).map fun z => 1 + ds.getD z.toNat 0).map V.int))) := (k4.trans k3).new hy2
    generalize upd H3 y2 (.lst ([V.int 0] ++ ((row.1 ++ row.2).map fun z => 1 + ds.getD z.toNat 0).map V.int)) = HF at kF ⊢
    have edF := kF.get (fun z => z) e2
    repeat kaf_suf
    exact ⟨_, _, _, _, _, _, _, _, rfl, (k2.trans kF).setN hD, by rw [upd_same, List.take_succ, hd, List.map_append]; rfl⟩
  rintro σ H2 ⟨x4, x5, x6, x7, x8, x9, x10, x11, rfl, k2, e2⟩
  rw [ekl, List.take_of_length_le (by omega)] at e2
  have et2 := k2.get (fun z => z) et
  have pk2 := paired_keep pk fun w g r => RowAt.keep r (k2.weak (M := W))
  have St2 := St.keep k2
  clear k1 e1 et1
  repeat kaf_suf
  intro Dl hDl
  rw [ekl]
  refine lc_range (lo := 0) (n := (tb.length : Int).toNat) (fun j H' => ∃ ls : List Int, H' Dl = some (.lst (ls.map V.int)) ∧ ls.length ≤ j ∧ (∀ z ∈ ls, 0 ≤ z ∧ z < (tb.length : Int) ∧ ds.getD z.toNat 0 < 3) ∧ (0 < j → ls ≠ []) ∧ Keep Nil H2 H') ⟨[], upd_same, Nat.le_refl _, (fun z h => nomatch h), (fun h => by omega), Keep.alloc hDl⟩ ?_ ?_
  · rintro j H3 hj ⟨ls, e3, ll, lr, l0, k3⟩
    have hj' : j < tb.length := by omega
    have ed3 := k3.get (fun z => z) e2
    have hat : atI (ds.map V.int) (0 + (j : Int)) = some (.int (ds.getD j 0)) := atI_get (n := j) (by
      rw [List.getElem?_map, List.getElem?_eq_getElem (by omega), List.getD_eq_getElem?_getD, List.getElem?_eq_getElem (by omega)]
      rfl) (by omega)
    repeat kaf_suf
    refine ⟨rfl, ?_⟩
    repeat kaf_suf
    refine r_ite (fun lt => ?_) (fun lt => ?_)
    · repeat kaf_suf
      refine ⟨_, e3, few1 (by rw [List.length_map]; omega), ls ++ [0 + (j : Int)], by rw [List.map_append]; exact upd_same, by rw [List.length_append]; show ls.length + 1 ≤ _; omega, fun z hz => ?_, fun _ => by simp, k3.setN hDl⟩
      rcases List.mem_append.mp hz with hz | hz
      · exact lr z hz
      · rw [List.mem_singleton] at hz
        subst hz
        refine ⟨by omega, by omega, ?_⟩
        rw [show (0 + (j : Int)).toNat = j by omega]
        exact lt
    · refine ⟨ls, e3, by omega, lr, fun _ => l0 ?_, k3⟩
      refine Nat.pos_of_ne_zero fun z => lt ?_
      subst z
      obtain ⟨d, h1, h2, _⟩ := T3.dso.2 0 _ (List.getElem?_eq_getElem hj')
      have lo := T3.low 0 _ (List.getElem?_eq_getElem hj')
      rw [List.getD_eq_getElem?_getD, h1]
      show d < 3
      rcases List.mem_cons.mp h2 with h | h
      · omega
      · obtain ⟨y, hy, _⟩ := List.mem_map.mp h
        have := lo y hy
        omega
  rintro H3 ⟨ls, e3, ll, lr, l0, k3⟩
  have l0 : 0 < ls.length := List.length_pos_iff.mpr (l0 (by have := T3.pos; omega))
  have ll : ls.length ≤ 9 := by omega
  have k13 := k2.trans k3
  have et3 := k3.get (fun z => z) et2
  have pk3 := paired_keep pk2 fun w g r => RowAt.keep r (k3.weak (M := W))
  have St3 := St2.keep k3
  have nDla : Dl ≠ a := fun z => St2.some_ (z ▸ hDl)
  have nDlt : Dl ≠ t := ne_new hDl et2
  clear e2 et2 pk2 St2 k3 hDl k2
  repeat kaf_suf
  intro sl hsl
  have hslH : H sl = none := keep_none k13 hsl
  have k4 : Keep Nil H3 (upd H3 sl (.lst [])) := Keep.alloc hsl
  have esl : (upd H3 sl (.lst [])) sl = some (.lst []) := upd_same
  have nslt : sl ≠ t := ne_new hsl et3
  have nslw : sl ≠ Dl := ne_new hsl e3
  have nsls : sl ≠ a := fun z => St3.some_ (z ▸ hsl)
  have St4 := St3.keep k4
  have e4 := k4.get (fun z => z) e3
  have et4 := k4.get (fun z => z) et3
  have k14 := k13.trans k4
  have pk4 := paired_keep pk3 fun w g r => RowAt.keep (RowAt.add r hsl) (k4.weak (M := fun x => W x ∨ x = sl))
  generalize upd H3 sl (.lst []) = H4 at k4 esl St4 e4 et4 k14 pk4 ⊢
  clear k13 et3 pk3 St3 e3 hsl k4
  repeat kaf_suf
  refine for_range (lo := 0) (n := (2 : Int).toNat) (fun j σ H' => ∃ (x8 x9 x10 x11 : Option V) (sd : List Addr) (ms : List (List Int)), σ = [some (.ref a), some (.ref t), some (.int r), some (.ref D), x4, x5, some (.ref Dl), some (.ref sl), x8, x9, x10, x11] ∧ Keep (fun x => x = a ∨ x = sl) H4 H' ∧ StA H' a ∧ H' sl = some (.lst (sd.map V.ref)) ∧ Paired (fun q (m : List Int) => DrL H4 H' (fun x => x = a ∨ x = sl) (fun z => 0 ≤ z ∧ z < (tb.length : Int) ∧ ds.getD z.toNat 0 < 3) q m ∧ m.length ≤ 8) sd ms ∧ ms.length = j) ⟨_, _, _, _, [], [], rfl, Keep.refl, St4, esl, .nil, rfl⟩ ?_ ?_
  · rintro j σ H5 hj ⟨x8, x9, x10, x11, sd, ms, rfl, k5, St5, esl5, pm, ml⟩
    repeat kaf_suf
    refine ⟨rfl, a, 9, rfl, St5, by decide, wd_small (by decide), fun H6 u k6 St6 u0 u1 => ?_⟩
    repeat kaf_suf
    have hj2 : j < 2 := hj
    have e5 := k5.get (fun z => z.elim nDla fun z => nslw z.symm) e4
    have e6 := k6.get nDla e5
    have k46 : Keep (fun x => x = a ∨ x = sl) H4 H6 := k5.trans (k6.mono fun x z => .inl z)
    have esl6 := k6.get nsls esl5
    have pm6 := paired_keep pm fun q m (r : DrL H4 H5 (fun x => x = a ∨ x = sl) (fun z => 0 ≤ z ∧ z < (tb.length : Int) ∧ ds.getD z.toNat 0 < 3) q m ∧ m.length ≤ 8) => (⟨⟨k6.get (fun z => r.1.2.2.1 (.inl z)) r.1.1, r.1.2⟩, r.2⟩ : DrL H4 H6 (fun x => x = a ∨ x = sl) (fun z => 0 ≤ z ∧ z < (tb.length : Int) ∧ ds.getD z.toNat 0 < 3) q m ∧ m.length ≤ 8)
    clear k5 k6 St5 esl5 pm e5
    intro D0 hD0
    have nD0s : D0 ≠ a := fun z => St6.some_ (z ▸ hD0)
    have nD0sl : D0 ≠ sl := ne_new hD0 esl6
    have nD0l : D0 ≠ Dl := ne_new hD0 e6
    have hD04 : H4 D0 = none := keep_noneM k46 (fun z => z.elim nD0s nD0sl) hD0
    refine lc_range (lo := 0) (n := u.toNat) (fun i2 H' => ∃ us : List Int, H' D0 = some (.lst (us.map V.int)) ∧ us.length = i2 ∧ (∀ z ∈ us, 0 ≤ z ∧ z < (tb.length : Int) ∧ ds.getD z.toNat 0 < 3) ∧ Keep (fun x => x = a) H6 H' ∧ StA H' a) ⟨[], upd_same, rfl, (fun z h => nomatch h), Keep.alloc hD0, St6.keep (Keep.alloc hD0)⟩ ?_ ?_
    · rintro i2 H7 hi2 ⟨us, e7, ul, ur, k7, St7⟩
      have el7 := k7.get nDla e6
      repeat kaf_suf
      refine ⟨rfl, ?_⟩
      repeat kaf_suf
      refine ⟨rfl, a, _, rfl, St7, by rw [List.length_map]; omega, wd_small (by rw [List.length_map]; omega), fun H8 v k8 St8 v0 v1 => ?_⟩
      rw [List.length_map] at v1
      have el8 := k8.get nDla el7
      have e8 := k8.get nD0s e7
      have hat : atI (ls.map V.int) v = some (.int (ls.getD v.toNat 0)) := atI_get (n := v.toNat) (by
        rw [List.getElem?_map, List.getElem?_eq_getElem (by omega), List.getD_eq_getElem?_getD, List.getElem?_eq_getElem (by omega)]
        rfl) (by omega)
      have hin : ls.getD v.toNat 0 ∈ ls := by
        rw [List.getD_eq_getElem?_getD, List.getElem?_eq_getElem (by omega)]
        exact List.getElem_mem _
      repeat kaf_suf
      refine ⟨_, e8, few1 (by rw [List.length_map]; omega), us ++ [ls.getD v.toNat 0], by rw [List.map_append]; exact upd_same, by rw [List.length_append, ul]; rfl, fun z hz => ?_, ?_, ?_⟩
      · rcases List.mem_append.mp hz with hz | hz
        · exact ur z hz
        · rw [List.mem_singleton] at hz
          subst hz
          exact lr _ hin
      · exact (k7.trans k8).setN hD0
      · exact St8.keepN (Keep.refl.set rfl : Keep (fun x => x = D0) H8 _) fun z => nD0s z.symm
    · rintro H7 ⟨us, e7, ul, ur, k7, St7⟩
      have esl7 := k7.get nsls esl6
      have pl := Paired.length pm6
      repeat kaf_suf
      have k9 : Keep (fun x => x = a ∨ x = sl) H4 (upd H7 sl (.lst (sd.map V.ref ++ [V.ref D0]))) := (k46.trans (k7.mono fun x z => .inl z)).set (.inr rfl)
      refine ⟨_, _, _, _, sd ++ [D0], ms ++ [us], rfl, k9, St7.keepN (Keep.refl.set rfl : Keep (fun x => x = sl) H7 _) (fun z => nsls z.symm), by rw [List.map_append]; exact upd_same, Paired.snoc (paired_keep pm6 fun q m (r : DrL H4 H6 (fun x => x = a ∨ x = sl) (fun z => 0 ≤ z ∧ z < (tb.length : Int) ∧ ds.getD z.toNat 0 < 3) q m ∧ m.length ≤ 8) => (⟨⟨get_set (fun z => r.1.2.2.1 (.inr z)) (k7.get (fun z => r.1.2.2.1 (.inl z)) r.1.1), r.1.2⟩, r.2⟩ : DrL H4 _ (fun x => x = a ∨ x = sl) (fun z => 0 ≤ z ∧ z < (tb.length : Int) ∧ ds.getD z.toNat 0 < 3) q m ∧ m.length ≤ 8)) ⟨⟨get_set nD0sl e7, hD04, (fun z => z.elim nD0s nD0sl), ur⟩, by omega⟩, by rw [List.length_append, ml]; rfl⟩
  rintro σ H5 ⟨x8, x9, x10, x11, sd, ms, rfl, k5, St5, esl5, pm, ml⟩
  have ml2 : ms.length = 2 := ml
  obtain ⟨q1, q2, m1, m2, rfl, rfl, ⟨⟨f1, g1, n1, s1⟩, l1⟩, ⟨⟨f2, g2, n2, s2⟩, l2⟩⟩ := paired_two pm ml2
  have esl5 : H5 sl = some (.lst [V.ref q1, V.ref q2]) := esl5
  have et5 := k5.get (fun z => z.elim (fun z => nat_ z.symm) fun z => nslt z.symm) et4
  have e5 := k5.get (fun z => z.elim nDla fun z => nslw z.symm) e4
  have pk5 := paired_keep pk4 fun w g r => RowAt.keep r (k5.mono (fun x z => z.elim (fun z => .inl (eqW z Wa)) fun z => .inr z) : Keep (fun x => W x ∨ x = sl) H4 H5)
  have pk5 : Paired (RowAt W H5) ks tb := paired_keep pk5 fun w g r => r.mono fun x z => .inl z
  have k15 : Keep (fun x => x = a ∨ x = t) H H5 := fun x o n h => k5 x o (fun z => z.elim (fun z => n (.inl z)) fun z => by rw [z, hslH] at h; cases h) (k14 x o (fun z => z) h)
  have nq1 : ¬ (q1 = a ∨ q1 = t) := fun z => z.elim (fun z => n1 (.inl z)) fun z => by rw [← z, g1] at et4; cases et4
  have nq2 : ¬ (q2 = a ∨ q2 = t) := fun z => z.elim (fun z => n2 (.inl z)) fun z => by rw [← z, g2] at et4; cases et4
  have nq1W : ¬ W q1 := nW (fun z => nq1 (.inl z)) (fun z => nq1 (.inr z)) (keep_none k14 g1)
  have nq2W : ¬ W q2 := nW (fun z => nq2 (.inl z)) (fun z => nq2 (.inr z)) (keep_none k14 g2)
  clear k5 k14 et4 pk4 St4 esl g1 g2 n1 n2 pm e4
  repeat kaf_suf
  intro w hw
  repeat kaf_suf
  have nwt : w ≠ t := ne_new hw et5
  have nwa : w ≠ a := fun z => St5.some_ (z ▸ hw)
  have kb : Keep (fun x => x = t) H5 (upd (upd H5 w (.tup [.ref q1, .ref q2])) t (.lst (ks.map V.ref ++ [.ref w]))) := (Keep.alloc hw).set rfl
  have etb : (upd (upd H5 w (.tup [.ref q1, .ref q2])) t (.lst (ks.map V.ref ++ [.ref w]))) t = some (.lst ((ks ++ [w]).map V.ref)) := by rw [List.map_append]; exact upd_same
  have ewb : (upd (upd H5 w (.tup [.ref q1, .ref q2])) t (.lst (ks.map V.ref ++ [.ref w]))) w = some (.tup [.ref q1, .ref q2]) := get_set nwt upd_same
  generalize upd (upd H5 w (.tup [.ref q1, .ref q2])) t (.lst (ks.map V.ref ++ [.ref w])) = Hb at kb etb ewb ⊢
  have f1b := kb.get (fun z => nq1 (.inr z)) f1
  have f2b := kb.get (fun z => nq2 (.inr z)) f2
  have pkb : Paired (RowAt W Hb) (ks ++ [w]) (tb ++ [(m1, m2)]) := Paired.snoc (paired_keep pk5 fun w g r => RowAt.keep r (kb.mono fun x z => eqW z Wt)) ⟨q1, q2, ewb, f1b, f2b, nW nwa nwt (keep_noneM k15 (fun z => z.elim nwa nwt) hw), nq1W, nq2W⟩
  have Stb := St5.keepN kb nat_
  have edb := kb.get nDlt e5
  have kHb : Keep (fun x => x = a ∨ x = t) H Hb := k15.trans (kb.mono fun x z => .inr z)
  clear kb ewb et5 e5 f1 f2 f1b f2b pk5 k15 hw esl5 St5
  have nd : ∀ z ∈ m1 ++ m2, 0 ≤ z ∧ z < (tb.length : Int) ∧ ds.getD z.toNat 0 < 3 := fun z hz => (List.mem_append.mp hz).elim (s1 z) (s2 z)
  have T0 : TabL tb (ds.map fB) := ⟨T3.low, fun row hr => by have := T3.few row hr; omega, T3.lenOk⟩
  have T1 : TabL (tb ++ [(m1, m2)]) (ds.map fB ++ [2755]) := T0.push (fun z hz => ⟨(nd z hz).1, (nd z hz).2.1⟩) ⟨l1, l2⟩ (by
    have s1 := sum_bd (l := m1 ++ m2) (g := fun z => (ds.map fB).getD z.toNat 0 + 1) (n := 172) fun z hz => by
      have := nd z hz
      show (ds.map fB).getD z.toNat 0 + 1 ≤ _
      rw [getD_map (by omega)]
      have := fB_low this.2.2
      omega
    have s2 : (m1 ++ m2).length * 172 ≤ 16 * 172 := Nat.mul_le_mul_right _ (by rw [List.length_append]; omega)
    show ((m1 ++ m2).map _).sum + 3 ≤ 2755
    omega) (by decide)
  have lw1 : ∀ z ∈ ls, 0 ≤ z ∧ z < (tb.length : Int) ∧ (ds.map fB ++ [2755]).getD z.toNat 0 ≤ 171 := fun z hz => by
    obtain ⟨a1, a2, a3⟩ := lr z hz
    refine ⟨a1, a2, ?_⟩
    rw [getD_app (by rw [List.length_map]; omega), getD_map (by omega)]
    exact fB_low a3
  repeat kaf_suf
  refine for_range (lo := 0) (n := r.toNat) (fun j σ H' => ∃ (x7 x8 x9 x10 x11 : Option V) (kz : List Addr) (tz : List Gm) (lz : List Nat), σ = [some (.ref a), some (.ref t), some (.int r), some (.ref D), x4, x5, some (.ref Dl), x7, x8, x9, x10, x11] ∧ Keep (fun x => x = a ∨ x = t) H H' ∧ StA H' a ∧ H' t = some (.lst (kz.map V.ref)) ∧ Paired (RowAt W H') kz tz ∧ H' Dl = some (.lst (ls.map V.int)) ∧ TabL tz lz ∧ tz.length = tb.length + 1 + j ∧ lz.getD (tz.length - 1) 0 ≤ 2755 + 176 * j ∧ (∀ z ∈ ls, lz.getD z.toNat 0 ≤ 171) ∧ ∀ b ∈ lz, b ≤ 2755 + 176 * j) ⟨_, _, _, _, _, _, _, _, rfl, kHb, Stb, etb, pkb, edb, T1, by rw [List.length_append]; rfl, by
    rw [List.length_append, List.length_singleton, Nat.add_sub_cancel, List.getD_eq_getElem?_getD, List.getElem?_append_right (by rw [List.length_map]; omega), List.length_map, dl, Nat.sub_self]
    exact Nat.le_refl _, fun z hz => (lw1 z hz).2.2, fun b hb => by
    rcases List.mem_append.mp hb with h | h
    · obtain ⟨y, hy, rfl⟩ := List.mem_map.mp h
      have := fB_pos y
      omega
    · rw [List.mem_singleton] at h
      omega⟩ ?_ ?_
  rotate_left
  · rintro σ H' ⟨x7, x8, x9, x10, x11, kz, tz, lz, rfl, k9, St9, et9, pk9, _, T9, tl9, _, _, lb9⟩
    repeat kaf_suf
    exact k H' tz lz k9 St9 ⟨kz, et9, pk9⟩ ⟨T9.low, T9.few, by omega⟩ T9.lok (fun b hb => by have := lb9 b hb; omega) (by omega)
  rintro j σ H6 hj ⟨x7, x8, x9, x10, x11, kz, tz, lz, rfl, k6, St6, et6, pk6, el6, T6, tl6, lb6, lw6, lm6⟩
  have klz := Paired.length pk6
  have ekz : (kz.map V.ref).length = tz.length := by rw [List.length_map, klz]
  repeat kaf_suf
  rw [ekz]
  intro p1 hp1
  repeat kaf_suf
  intro p2 hp2
  repeat kaf_suf
  intro S hS
  have kS : Keep Nil H6 (upd (upd (upd H6 p1 (.lst [.int ((tz.length : Int) - 1)])) p2 (.lst [])) S (.lst [.ref p1, .ref p2])) := ((Keep.alloc hp1).new hp2).new hS
  have eS : (upd (upd (upd H6 p1 (.lst [.int ((tz.length : Int) - 1)])) p2 (.lst [])) S (.lst [.ref p1, .ref p2])) S = some (.lst [.ref p1, .ref p2]) := upd_same
  have e1 : (upd (upd (upd H6 p1 (.lst [.int ((tz.length : Int) - 1)])) p2 (.lst [])) S (.lst [.ref p1, .ref p2])) p1 = some (.lst ([(tz.length : Int) - 1].map V.int)) := by kaf_pre
  have e2 : (upd (upd (upd H6 p1 (.lst [.int ((tz.length : Int) - 1)])) p2 (.lst [])) S (.lst [.ref p1, .ref p2])) p2 = some (.lst (([] : List Int).map V.int)) := by kaf_pre
  have hp26 : H6 p2 = none := none_of_upd hp2
  have hS6 : H6 S = none := none_of_upd (none_of_upd hS)
  have n12 : p1 ≠ p2 := fun z => by rw [z, upd_same] at hp2; cases hp2
  have nSa : S ≠ a := fun z => St6.some_ (z ▸ hS6)
  have nSt : S ≠ t := ne_new hS6 et6
  have n1a : p1 ≠ a := fun z => St6.some_ (z ▸ hp1)
  have n1t : p1 ≠ t := ne_new hp1 et6
  have n2a : p2 ≠ a := fun z => St6.some_ (z ▸ hp26)
  have n2t : p2 ≠ t := ne_new hp26 et6
  have n1l : p1 ≠ Dl := ne_new hp1 el6
  have n2l : p2 ≠ Dl := ne_new hp26 el6
  generalize upd (upd (upd H6 p1 (.lst [.int ((tz.length : Int) - 1)])) p2 (.lst [])) S (.lst [.ref p1, .ref p2]) = H7 at kS eS e1 e2 ⊢
  have n1S : p1 ≠ S := fun z => by rw [z, eS] at e1; cases e1
  have n2S : p2 ≠ S := fun z => by rw [z, eS] at e2; cases e2
  have St7 := St6.keep kS
  have et7 := kS.get (fun z => z) et6
  have el7 := kS.get (fun z => z) el6
  have pk7 := paired_keep pk6 fun w g r => ((r.add hp1).add hp26).keep (kS.weak (M := fun x => (W x ∨ x = p1) ∨ x = p2))
  have hp1H := keep_noneM k6 (fun z => z.elim n1a n1t) hp1
  have hp2H := keep_noneM k6 (fun z => z.elim n2a n2t) hp26
  have k7 := k6.trans (kS.weak (M := fun x => x = a ∨ x = t))
  clear k6 kS St6 et6 el6 pk6 hp1 hp2 hS hp26 hS6
  repeat kaf_suf
  refine ⟨fun σ H' => ∃ (x8 x9 x10 x11 : Option V) (m1 m2 : List Int), σ = [some (.ref a), some (.ref t), some (.int r), some (.ref D), x4, x5, some (.ref Dl), some (.ref S), x8, x9, x10, x11] ∧ Keep (fun x => ((x = a ∨ x = t) ∨ x = p1) ∨ x = p2) H7 H' ∧ StA H' a ∧ H' t = some (.lst (kz.map V.ref)) ∧ H' p1 = some (.lst (m1.map V.int)) ∧ H' p2 = some (.lst (m2.map V.int)) ∧ (m1 ++ m2 = [(tz.length : Int) - 1] ∨ ∃ z ∈ ls, m1 ++ m2 = [(tz.length : Int) - 1, z]), ?_, ?_⟩
  · repeat kaf_suf
    refine ⟨rfl, a, 2, rfl, St7, by decide, wd_small (by decide), fun H8 u k8 St8 u0 u1 => ?_⟩
    have et8 := k8.get (fun z => nat_ z.symm) et7
    have el8 := k8.get nDla el7
    have eS8 := k8.get nSa eS
    have e18 := k8.get n1a e1
    have e28 := k8.get n2a e2
    have k78 : Keep (fun x => ((x = a ∨ x = t) ∨ x = p1) ∨ x = p2) H7 H8 := k8.mono fun x z => .inl (.inl (.inl z))
    repeat kaf_suf
    refine r_ite (fun u2 => ?_) (fun u2 => ?_)
    rotate_left
    · exact ⟨_, _, _, _, _, _, rfl, k78, St8, et8, e18, e28, .inl rfl⟩
    repeat kaf_suf
    refine ⟨rfl, a, 2, rfl, St8, by decide, wd_small (by decide), fun H9 v k9 St9 v0 v1 => ?_⟩
    have et9 := k9.get (fun z => nat_ z.symm) et8
    have el9 := k9.get nDla el8
    have eS9 := k9.get nSa eS8
    have e19 := k9.get n1a e18
    have e29 := k9.get n2a e28
    have k79 : Keep (fun x => ((x = a ∨ x = t) ∨ x = p1) ∨ x = p2) H7 H9 := k78.trans (k9.mono fun x z => .inl (.inl (.inl z)))
    clear k78 k9 et8 el8 eS8 e18 e28 St8
    have hat : ∃ q : Addr, (q = p1 ∨ q = p2) ∧ atI [V.ref p1, V.ref p2] v = some (.ref q) := by
      have : v = 0 ∨ v = 1 := by omega
      rcases this with rfl | rfl
      · exact ⟨p1, .inl rfl, rfl⟩
      · exact ⟨p2, .inr rfl, rfl⟩
    obtain ⟨q, hq, hat⟩ := hat
    rcases hq with rfl | rfl
    · repeat kaf_suf
      refine ⟨rfl, a, _, rfl, St9, by rw [List.length_map]; omega, wd_small (by rw [List.length_map]; omega), fun HA w kA StA' w0 w1 => ?_⟩
      rw [List.length_map] at w1
      have elA := kA.get nDla el9
      have etA := kA.get (fun z => nat_ z.symm) et9
      have e1A := kA.get n1a e19
      have e2A := kA.get n2a e29
      have k7A := k79.trans (kA.mono fun x z => .inl (.inl (.inl z)))
      clear k79 kA et9 el9 eS9 e19 e29 St9
      have hat : atI (ls.map V.int) w = some (.int (ls.getD w.toNat 0)) := atI_get (n := w.toNat) (by
        rw [List.getElem?_map, List.getElem?_eq_getElem (by omega), List.getD_eq_getElem?_getD, List.getElem?_eq_getElem (by omega)]
        rfl) (by omega)
      have hin : ls.getD w.toNat 0 ∈ ls := by
        rw [List.getD_eq_getElem?_getD, List.getElem?_eq_getElem (by omega)]
        exact List.getElem_mem _
      repeat kaf_suf
      exact v_append e1A (few1 (by simp)) ⟨_, _, _, _, [(tz.length : Int) - 1, ls.getD w.toNat 0], [], rfl, k7A.set (.inl (.inr rfl)), StA'.keepN (Keep.refl.set rfl : Keep (fun x => x = q) HA _) (fun z => n1a z.symm), get_set n1t.symm etA, upd_same, get_set n12.symm e2A, .inr ⟨_, hin, rfl⟩⟩
    · repeat kaf_suf
      refine ⟨rfl, a, _, rfl, St9, by rw [List.length_map]; omega, wd_small (by rw [List.length_map]; omega), fun HA w kA StA' w0 w1 => ?_⟩
      rw [List.length_map] at w1
      have elA := kA.get nDla el9
      have etA := kA.get (fun z => nat_ z.symm) et9
      have e1A := kA.get n1a e19
      have e2A := kA.get n2a e29
      have k7A := k79.trans (kA.mono fun x z => .inl (.inl (.inl z)))
      clear k79 kA et9 el9 eS9 e19 e29 St9
      have hat : atI (ls.map V.int) w = some (.int (ls.getD w.toNat 0)) := atI_get (n := w.toNat) (by
        rw [List.getElem?_map, List.getElem?_eq_getElem (by omega), List.getD_eq_getElem?_getD, List.getElem?_eq_getElem (by omega)]
        rfl) (by omega)
      have hin : ls.getD w.toNat 0 ∈ ls := by
        rw [List.getD_eq_getElem?_getD, List.getElem?_eq_getElem (by omega)]
        exact List.getElem_mem _
      repeat kaf_suf
      exact v_append e2A (few1 (by simp)) ⟨_, _, _, _, [(tz.length : Int) - 1], [ls.getD w.toNat 0], rfl, k7A.set (.inr rfl), StA'.keepN (Keep.refl.set rfl : Keep (fun x => x = q) HA _) (fun z => n2a z.symm), get_set n2t.symm etA, get_set n12 e1A, upd_same, .inr ⟨_, hin, rfl⟩⟩
  rintro σ H8 ⟨x8, x9, x10, x11, m1, m2, rfl, k8, St8, et8, e18, e28, mm⟩
  repeat kaf_suf
  refine ⟨rfl, a, 2, rfl, St8, by decide, wd_small (by decide), fun H9 v k9 St9 v0 v1 => ?_⟩
  have eS9 := k9.get nSa (k8.get (fun z => z.elim (fun z => z.elim (fun z => z.elim nSa nSt) fun z => n1S z.symm) fun z => n2S z.symm) eS)
  have el9 := k9.get nDla (k8.get (fun z => z.elim (fun z => z.elim (fun z => z.elim nDla nDlt) fun z => n1l z.symm) fun z => n2l z.symm) el7)
  have et9 := k9.get (fun z => nat_ z.symm) et8
  have e19 := k9.get n1a e18
  have e29 := k9.get n2a e28
  have k79 : Keep (fun x => ((x = a ∨ x = t) ∨ x = p1) ∨ x = p2) H7 H9 := k8.trans (k9.mono fun x z => .inl (.inl (.inl z)))
  have pk9 := paired_keep pk7 fun w g r => r.keep (k79.mono fun x z => z.elim (fun z => z.elim (fun z => z.elim (fun z => .inl (.inl (eqW z Wa))) fun z => .inl (.inl (eqW z Wt))) fun z => .inl (.inr z)) fun z => .inr z)
  have pk9 : Paired (RowAt W H9) kz tz := paired_keep pk9 fun w g r => r.mono fun x z => .inl (.inl z)
  have kH9 : Keep (fun x => x = a ∨ x = t) H H9 := fun x o n h => k79 x o (fun z => z.elim (fun z => z.elim n fun z => by rw [z, hp1H] at h; cases h) fun z => by rw [z, hp2H] at h; cases h) (k7 x o n h)
  clear k8 k9 St8 et8 e18 e28 k79 pk7 eS e1 e2 et7 el7 k7 St7
  have hat : ∃ (q q' : Addr) (r1 r2 : List Int), atI [V.ref p1, V.ref p2] v = some (.ref q) ∧ atI [V.ref p1, V.ref p2] (1 - v) = some (.ref q') ∧ (¬ (q = a ∨ q = t) ∧ ¬ W q) ∧ (¬ (q' = a ∨ q' = t) ∧ ¬ W q') ∧ H9 q = some (.lst (r1.map V.int)) ∧ H9 q' = some (.lst (r2.map V.int)) ∧ (r1 = m1 ∧ r2 = m2 ∨ r1 = m2 ∧ r2 = m1) := by
    have : v = 0 ∨ v = 1 := by omega
    rcases this with rfl | rfl
    · exact ⟨p1, p2, m1, m2, rfl, rfl, ⟨(fun z => z.elim n1a n1t), nW n1a n1t hp1H⟩, ⟨(fun z => z.elim n2a n2t), nW n2a n2t hp2H⟩, e19, e29, .inl ⟨rfl, rfl⟩⟩
    · exact ⟨p2, p1, m2, m1, rfl, rfl, ⟨(fun z => z.elim n2a n2t), nW n2a n2t hp2H⟩, ⟨(fun z => z.elim n1a n1t), nW n1a n1t hp1H⟩, e29, e19, .inr ⟨rfl, rfl⟩⟩
  obtain ⟨q, q', r1', r2', hq, hq', nq, nq', eq, eq', rr⟩ := hat
  repeat kaf_suf
  intro w hw
  repeat kaf_suf
  have nwt : w ≠ t := ne_new hw et9
  have nwa : w ≠ a := fun z => St9.some_ (z ▸ hw)
  have kb : Keep (fun x => x = t) H9 (upd (upd H9 w (.tup [.ref q, .ref q'])) t (.lst (kz.map V.ref ++ [.ref w]))) := (Keep.alloc hw).set rfl
  have etb : (upd (upd H9 w (.tup [.ref q, .ref q'])) t (.lst (kz.map V.ref ++ [.ref w]))) t = some (.lst ((kz ++ [w]).map V.ref)) := by rw [List.map_append]; exact upd_same
  have ewb : (upd (upd H9 w (.tup [.ref q, .ref q'])) t (.lst (kz.map V.ref ++ [.ref w]))) w = some (.tup [.ref q, .ref q']) := get_set nwt upd_same
  generalize upd (upd H9 w (.tup [.ref q, .ref q'])) t (.lst (kz.map V.ref ++ [.ref w])) = Hb at kb etb ewb ⊢
  have pkb : Paired (RowAt W Hb) (kz ++ [w]) (tz ++ [(r1', r2')]) := Paired.snoc (paired_keep pk9 fun w g r => RowAt.keep r (kb.mono fun x z => eqW z Wt)) ⟨q, q', ewb, kb.get (fun z => nq.1 (.inr z)) eq, kb.get (fun z => nq'.1 (.inr z)) eq', nW nwa nwt (keep_noneM kH9 (fun z => z.elim nwa nwt) hw), nq.2, nq'.2⟩
  have lz0 := T6.lok.1
  have fz : ∀ x ∈ m1 ++ m2, 0 ≤ x ∧ x < (tz.length : Int) := by
    rcases mm with e | ⟨z, hz, e⟩ <;> rw [e] <;> intro x hx <;> simp only [List.mem_cons, List.not_mem_nil, or_false] at hx
    · omega
    · have := lw1 z hz
      rcases hx with rfl | rfl <;> omega
  have sm : ((m1 ++ m2).map fun z => lz.getD z.toNat 0 + 1).sum + 3 ≤ 2755 + 176 * (j + 1) := by
    have e0 : ((tz.length : Int) - 1).toNat = tz.length - 1 := by omega
    rcases mm with e | ⟨z, hz, e⟩ <;> rw [e]
    · simp only [List.map_cons, List.map_nil, List.sum_cons, List.sum_nil, e0]
      omega
    · have := lw6 z hz
      simp only [List.map_cons, List.map_nil, List.sum_cons, List.sum_nil, e0]
      omega
  have ml9 : m1.length ≤ 2 ∧ m2.length ≤ 2 := by
    have : (m1 ++ m2).length ≤ 2 := by rcases mm with e | ⟨z, hz, e⟩ <;> rw [e] <;> simp
    rw [List.length_append] at this
    omega
  have T7 : TabL (tz ++ [(r1', r2')]) (lz ++ [2755 + 176 * (j + 1)]) := by
    rcases rr with ⟨rfl, rfl⟩ | ⟨rfl, rfl⟩
    · exact T6.push fz (by show r1'.length ≤ 8 ∧ r2'.length ≤ 8; omega) sm (by omega)
    · refine T6.push (fun x hx => fz x ?_) (by show r1'.length ≤ 8 ∧ r2'.length ≤ 8; omega) ?_ (by omega)
      · exact List.mem_append.mpr (List.mem_append.mp hx).symm
      · show ((r1' ++ r2').map _).sum + 3 ≤ _
        rw [List.map_append, List.sum_append] at sm ⊢
        omega
  exact ⟨_, _, _, _, _, kz ++ [w], _, _, rfl, kH9.trans (kb.mono fun x z => .inr z), St9.keepN kb nat_, etb, pkb, kb.get nDlt el9, T7, by rw [List.length_append, tl6, List.length_singleton]; omega, by
    rw [List.length_append, List.length_singleton, Nat.add_sub_cancel, List.getD_eq_getElem?_getD, ← lz0, List.getElem?_append_right (Nat.le_refl _), Nat.sub_self]
    exact Nat.le_refl _, fun z hz => by
    rw [getD_app (by have := lw1 z hz; omega)]
    exact lw6 z hz, fun b hb => by
    rcases List.mem_append.mp hb with h | h
    · have := lm6 b h; omega
    · rw [List.mem_singleton] at h
      omega⟩
theorem cal_law_more {c : Cn} {mg : Str → Option Value} {base : Heap} (T : Txt c mg) : Cal c.P c.w c.K mg base CX0 2 "_law_more" (sp_law_more c) := by
  obtain ⟨f, fd, F, g, b⟩ := T.F_law_more
  exact ⟨f, fd, ["store", "table", "rows"], F.ok (k := 1) (N := N_law_more) sc_law_more (fun vs H Q E h => h.1) (fun cdv A outer s H vs Q E hr h => ⟨t_law_more c, by
  exact (pss_cons (ps_set (i := 3) sc_law_more.nd rfl (Or.inr rfl) (pe_lst pa_nil))
  (pss_cons (ps_for PassesOwn.never rfl (pi_any (pv 1)) (g_seq rfl (pgs_cons (pg_name (i := 4) sc_law_more.nd rfl (Or.inl rfl)) (pgs_cons (pg_name (i := 5) sc_law_more.nd rfl (Or.inl rfl)) pgs_nil)))
  (pss_one (ps_expr (pe_bm PySem.F.plainAttrs_list PySem.F.slot_list_append PySem.F.type_list_append mt_append (pv 3) (pa_cons (pe_callB (k_max rfl) (by rfl) T.n_max (by decide +kernel) (pa_cons (pe_op o_add (pe_lst (pa_cons pe_int pa_nil)) (pe_lc (own := [("at", 10)]) rfl sc_law_more.nd (pi_any (pe_op o_add (pv 4) (pv 5))) (blkOk_by (own := [("at", 10)]) (N := N_law_more) (sc := defScope s_law_more) (by decide +kernel)) (fun _ _ _ _ _ => (pg_name (i := 10) sc_law_more.nd rfl (Or.inl rfl))) (fun _ _ _ _ _ => pts_nil) (fun _ _ _ _ _ => (pe_op o_add pe_int (pe_ix (x_ix (hu64 hr)) (pv 3) (pv 10) (fun _ _ => rfl)))))) pa_nil)) pa_nil)))))
  (pss_cons (ps_set (i := 6) sc_law_more.nd rfl (Or.inr rfl) (pe_lc (own := [("at", 10)]) rfl sc_law_more.nd (pi_range1 rfl T.n_range (pa_cons (pe_callB k_len (by rfl) T.n_len (by decide +kernel) (pa_cons (pv 1) pa_nil)) pa_nil)) (blkOk_by (own := [("at", 10)]) (N := N_law_more) (sc := defScope s_law_more) (by decide +kernel)) (fun _ _ _ _ _ => (pg_name (i := 10) sc_law_more.nd rfl (Or.inl rfl))) (fun _ _ _ _ _ => (pts_one (pt_cmpR (o_lt (hu64 hr)) (pe_ix (x_ix (hu64 hr)) (pv 3) (pv 10) (fun _ _ => rfl)) pe_int (nomark _)))) (fun _ _ _ _ _ => (pv 10))))
  (pss_cons (ps_set (i := 7) sc_law_more.nd rfl (Or.inl rfl) (pe_lst pa_nil))
  (pss_cons (ps_for PassesOwn.never rfl (pi_range1 rfl T.n_range (pa_cons pe_int pa_nil)) (pg_name (i := 8) sc_law_more.nd rfl (Or.inl rfl))
  (pss_one (ps_expr (pe_bm PySem.F.plainAttrs_list PySem.F.slot_list_append PySem.F.type_list_append mt_append (pv 7) (pa_cons (pe_lc (own := [("j", 11)]) rfl sc_law_more.nd (pi_range1 rfl T.n_range (pa_cons (e_call (cal_law_take T) hr (by decide) pass0 rfl (pa_cons (pv 0) (pa_cons pe_int pa_nil))) pa_nil)) (blkOk_by (own := [("j", 11)]) (N := N_law_more) (sc := defScope s_law_more) (by decide +kernel)) (fun _ _ _ _ _ => (pg_name (i := 11) sc_law_more.nd rfl (Or.inl rfl))) (fun _ _ _ _ _ => pts_nil) (fun _ _ _ _ _ => (pe_ix (x_ix (hu64 hr)) (pv 6) (e_call (cal_law_take T) hr (by decide) pass0 rfl (pa_cons (pv 0) (pa_cons (pe_callB k_len (by rfl) T.n_len (by decide +kernel) (pa_cons (pv 6) pa_nil)) pa_nil))) (fun _ _ => rfl)))) pa_nil)))))
  (pss_cons (ps_expr (pe_bm PySem.F.plainAttrs_list PySem.F.slot_list_append PySem.F.type_list_append mt_append (pv 1) (pa_cons (pe_tup (pa_cons (pe_ix (x_ix (hu64 hr)) (pv 7) pe_int (fun _ _ => rfl)) (pa_cons (pe_ix (x_ix (hu64 hr)) (pv 7) pe_int (fun _ _ => rfl)) pa_nil))) pa_nil)))
  (pss_one (ps_for PassesOwn.never rfl (pi_range1 rfl T.n_range (pa_cons (pv 2) pa_nil)) (pg_name (i := 9) sc_law_more.nd rfl (Or.inl rfl))
  (pss_cons (ps_set (i := 7) sc_law_more.nd rfl (Or.inl rfl) (pe_lst (pa_cons (pe_lst (pa_cons (pe_op o_sub (pe_callB k_len (by rfl) T.n_len (by decide +kernel) (pa_cons (pv 1) pa_nil)) pe_int) pa_nil)) (pa_cons (pe_lst pa_nil) pa_nil))))
  (C8.pss_cut (ps_if (pt_cmpR (o_eq (hu64 hr)) (e_call (cal_law_take T) hr (by decide) pass0 rfl (pa_cons (pv 0) (pa_cons pe_int pa_nil))) pe_int (nomark _)) (pss_one (ps_expr (pe_bm PySem.F.plainAttrs_list PySem.F.slot_list_append PySem.F.type_list_append mt_append (pe_ix (x_ix (hu64 hr)) (pv 7) (e_call (cal_law_take T) hr (by decide) pass0 rfl (pa_cons (pv 0) (pa_cons pe_int pa_nil))) (fun _ _ => rfl)) (pa_cons (pe_ix (x_ix (hu64 hr)) (pv 6) (e_call (cal_law_take T) hr (by decide) pass0 rfl (pa_cons (pv 0) (pa_cons (pe_callB k_len (by rfl) T.n_len (by decide +kernel) (pa_cons (pv 6) pa_nil)) pa_nil))) (fun _ _ => rfl)) pa_nil)))) pss_nil)
  (pss_cons (ps_set (i := 8) sc_law_more.nd rfl (Or.inl rfl) (e_call (cal_law_take T) hr (by decide) pass0 rfl (pa_cons (pv 0) (pa_cons pe_int pa_nil))))
  (pss_one (ps_expr (pe_bm PySem.F.plainAttrs_list PySem.F.slot_list_append PySem.F.type_list_append mt_append (pv 1) (pa_cons (pe_tup (pa_cons (pe_ix (x_ix (hu64 hr)) (pv 7) (pv 8) (fun _ _ => rfl)) (pa_cons (pe_ix (x_ix (hu64 hr)) (pv 7) (pe_op o_sub pe_int (pv 8)) (fun _ _ => rfl)) pa_nil))) pa_nil))))))))))))))), p_law_more T h⟩), g, F.kp, b⟩

/-! a text read: what is taken, and what is left -/
def pL (f : Tx → Option (Tx × Tx)) (e : Nat) : Nat → Option Tx → Tx → Option (List Tx × Tx)
  | 0, _, _ => none
  | n + 1, last, l => match f l with
    | none => none
    | some (w, r) => if ∃ v, last = some v ∧ ¬ v < w then none else match r with
      | [] => none
      | c :: r' => if c = e then some ([w], r') else if c = 44 then (match pL f e n (some w) r' with
        | none => none
        | some (ws, r2) => some (w :: ws, r2)) else none
def pS (f : Tx → Option (Tx × Tx)) (e : Nat) (l : Tx) : Option (List Tx × Tx) := match l with
  | c :: r => if c = e then some ([], r) else pL f e (l.length + 1) none l
  | [] => pL f e 1 none []
def pG : Nat → Tx → Option (Tx × Tx)
  | 0, l => match l with
    | 48 :: r => some ([48], r)
    | _ => none
  | n + 1, l => match l with
    | 48 :: r => some ([48], r)
    | 123 :: r => match pS (pG n) 124 r with
      | none => none
      | some (a, r1) => match pS (pG n) 125 r1 with
        | none => none
        | some (b, r2) => if a ++ b = [] then none else some (wr a b, r2)
    | _ => none
/-- the texts of games, by depth -/
inductive Wr : Nat → Tx → Prop
  | z {n : Nat} : Wr n [48]
  | nd {n : Nat} {a b : List Tx} : (∀ x ∈ a, Wr n x) → (∀ x ∈ b, Wr n x) → a.Pairwise (· < ·) → b.Pairwise (· < ·) → a ++ b ≠ [] → Wr (n + 1) (wr a b)
theorem Wr.head {n : Nat} {w : Tx} (h : Wr n w) : ∃ c r, w = c :: r ∧ (c = 48 ∨ c = 123) := by
  cases h with
  | z => exact ⟨48, [], rfl, .inl rfl⟩
  | nd _ _ _ _ _ => exact ⟨123, _, rfl, .inr rfl⟩
theorem Wr.up {n m : Nat} {w : Tx} (h : Wr n w) (l : n ≤ m) : Wr m w := by
  induction h generalizing m with
  | z => exact .z
  | nd _ _ s1 s2 ne i1 i2 =>
    obtain ⟨k, rfl⟩ : ∃ k, m = k + 1 := ⟨m - 1, by omega⟩
    exact .nd (fun x hx => i1 x hx (by omega)) (fun x hx => i2 x hx (by omega)) s1 s2 ne
theorem pL_full {f : Tx → Option (Tx × Tx)} {e : Nat} (ne : e ≠ 44) : ∀ {ws : List Tx} {n : Nat} {last : Option Tx} {r : Tx}, ws ≠ [] → ws.length ≤ n → (∀ x ∈ ws, ∀ r, f (x ++ r) = some (x, r)) → ws.Pairwise (· < ·) → (∀ v, last = some v → ∀ x ∈ ws, v < x) → pL f e n last (jc ws ++ e :: r) = some (ws, r)
  | [], _, _, _, h, _, _, _, _ => absurd rfl h
  | [w], n + 1, last, r, _, _, hf, _, hl => by
    show pL f e (n + 1) last (w ++ e :: r) = _
    unfold pL
    rw [hf w (by simp)]
    simp only
    rw [if_neg (fun ⟨v, h1, h2⟩ => h2 (hl v h1 w (by simp)))]
    simp
  | w :: w' :: ws, n + 1, last, r, _, hn, hf, hs, hl => by
    rw [jc_cons, List.append_assoc]
    unfold pL
    rw [hf w (by simp)]
    simp only
    rw [if_neg (fun ⟨v, h1, h2⟩ => h2 (hl v h1 w (by simp)))]
    obtain ⟨s1, s2⟩ := List.pairwise_cons.mp hs
    have := pL_full (f := f) ne (ws := w' :: ws) (n := n) (last := some w) (r := r) (by simp) (by simp only [List.length_cons] at hn ⊢; omega) (fun x hx => hf x (List.mem_cons_of_mem _ hx)) s2 (fun v hv x hx => by injection hv with hv; subst hv; exact s1 x hx)
    simp only [List.cons_append]
    rw [if_neg (fun h => ne h.symm)]
    simp only [this, if_true]
  | _ :: _, 0, _, _, _, h, _, _, _ => by simp at h
theorem jc_size : ∀ {ws : List Tx}, (∀ x ∈ ws, x ≠ []) → ws.length ≤ (jc ws).length
  | [], _ => Nat.zero_le _
  | [x], h => by
    have := List.length_pos_iff.mpr (h x (by simp))
    show 1 ≤ x.length
    omega
  | x :: y :: r, h => by
    have := jc_size (ws := y :: r) fun z hz => h z (List.mem_cons_of_mem _ hz)
    have := List.length_pos_iff.mpr (h x (by simp))
    rw [jc_cons, List.length_append]
    simp only [List.length_cons] at this ⊢
    simp only [List.length_cons] at *
    omega
theorem pS_full {f : Tx → Option (Tx × Tx)} {e : Nat} (ne : e ≠ 44) {ws : List Tx} {r : Tx} (hd : ∀ x ∈ ws, ∃ c t, x = c :: t ∧ c ≠ e) (hf : ∀ x ∈ ws, ∀ r, f (x ++ r) = some (x, r)) (s : ws.Pairwise (· < ·)) : pS f e (jc ws ++ e :: r) = some (ws, r) := by
  cases ws with
  | nil => show pS f e (e :: r) = _; unfold pS; simp
  | cons w t =>
    have l1 := jc_size (ws := w :: t) fun x hx => by obtain ⟨c, t, rfl, _⟩ := hd x hx; exact List.cons_ne_nil _ _
    have p := pL_full (f := f) (r := r) ne (n := (jc (w :: t) ++ e :: r).length + 1) (last := none) (by simp) (by rw [List.length_append]; omega) hf s (fun v hv => nomatch hv)
    obtain ⟨c, u, rfl, ce⟩ := hd w (by simp)
    obtain ⟨z, hz⟩ : ∃ z, jc ((c :: u) :: t) ++ e :: r = c :: z := by
      cases t with
      | nil => exact ⟨_, rfl⟩
      | cons y t => exact ⟨_, by rw [jc_cons]; rfl⟩
    rw [hz] at p ⊢
    unfold pS
    simp only
    rw [if_neg ce]
    exact p
theorem pG_full {n : Nat} {w : Tx} (h : Wr n w) : ∀ r, pG n (w ++ r) = some (w, r) := by
  induction h with
  | @z n => intro r; cases n <;> rfl
  | @nd n a b h1 h2 s1 s2 ne i1 i2 =>
    intro r
    have e : wr a b ++ r = 123 :: (jc a ++ 124 :: (jc b ++ 125 :: r)) := by
      unfold wr; simp
    rw [e]
    have hd : ∀ e : Nat, e = 124 ∨ e = 125 → ∀ l : List Tx, (∀ x ∈ l, Wr n x) → ∀ x ∈ l, ∃ c t, x = c :: t ∧ c ≠ e := fun e he l hl x hx => by
      obtain ⟨c, t, h1, h2⟩ := (hl x hx).head
      exact ⟨c, t, h1, by omega⟩
    show (match pS (pG n) 124 _ with | none => none | some (a, r1) => match pS (pG n) 125 r1 with | none => none | some (b, r2) => if a ++ b = [] then none else some (wr a b, r2)) = _
    rw [pS_full (by decide) (hd 124 (.inl rfl) a h1) i1 s1]
    simp only
    rw [pS_full (by decide) (hd 125 (.inr rfl) b h2) i2 s2]
    simp only
    rw [if_neg ne]
theorem pL_sound {f : Tx → Option (Tx × Tx)} {e : Nat} {P : Tx → Prop} (hf : ∀ l w r, f l = some (w, r) → l = w ++ r ∧ P w) : ∀ {n : Nat} {last : Option Tx} {l : Tx} {ws : List Tx} {r : Tx}, pL f e n last l = some (ws, r) → l = jc ws ++ e :: r ∧ ws ≠ [] ∧ (∀ x ∈ ws, P x) ∧ ws.Pairwise (· < ·) ∧ ∀ v, last = some v → ∀ x ∈ ws, v < x
  | 0, _, _, _, _, h => by unfold pL at h; cases h
  | n + 1, last, l, ws, r, h => by
    unfold pL at h
    split at h
    · cases h
    · rename_i w r1 hw
      obtain ⟨rfl, pw⟩ := hf _ _ _ hw
      split at h
      · cases h
      · rename_i nl
        have lt : ∀ v, last = some v → v < w := fun v hv => by
          refine Classical.byContradiction fun z => nl ⟨v, hv, z⟩
        split at h
        · cases h
        · rename_i c r'
          split at h
          · rename_i ce
            injection h with h
            injection h with h1 h2
            subst h1 h2 ce
            exact ⟨rfl, List.cons_ne_nil _ _, fun x hx => by rw [List.mem_singleton] at hx; subst hx; exact pw, List.pairwise_singleton .., fun v hv x hx => by rw [List.mem_singleton] at hx; subst hx; exact lt v hv⟩
          · split at h
            · rename_i c4
              split at h
              · cases h
              · rename_i ws' r2 h2
                injection h with h
                injection h with h1 h3
                subst h1 h3 c4
                obtain ⟨e1, ne1, p1, s1, l1⟩ := pL_sound hf h2
                obtain ⟨y, t, rfl⟩ := List.exists_cons_of_ne_nil ne1
                refine ⟨by rw [e1, jc_cons, List.append_assoc]; rfl, List.cons_ne_nil _ _, fun x hx => ?_, List.pairwise_cons.mpr ⟨l1 w rfl, s1⟩, fun v hv x hx => ?_⟩
                · rcases List.mem_cons.mp hx with rfl | hx
                  · exact pw
                  · exact p1 x hx
                · rcases List.mem_cons.mp hx with rfl | hx
                  · exact lt v hv
                  · exact List.lt_trans (lt v hv) (l1 w rfl x hx)
            · cases h
theorem pS_sound {f : Tx → Option (Tx × Tx)} {e : Nat} {P : Tx → Prop} (hf : ∀ l w r, f l = some (w, r) → l = w ++ r ∧ P w) {l : Tx} {ws : List Tx} {r : Tx} (h : pS f e l = some (ws, r)) : l = jc ws ++ e :: r ∧ (∀ x ∈ ws, P x) ∧ ws.Pairwise (· < ·) := by
  unfold pS at h
  split at h
  · split at h
    · rename_i ce
      injection h with h
      injection h with h1 h2
      subst h1 h2 ce
      exact ⟨rfl, (fun x hx => nomatch hx), List.Pairwise.nil⟩
    · obtain ⟨h1, _, h2, h3, _⟩ := pL_sound hf h
      exact ⟨h1, h2, h3⟩
  · obtain ⟨h1, _, h2, h3, _⟩ := pL_sound hf h
    exact ⟨h1, h2, h3⟩
theorem pG_sound : ∀ {n : Nat} {l w r : Tx}, pG n l = some (w, r) → l = w ++ r ∧ Wr n w
  | 0, l, w, r, h => by
    unfold pG at h
    split at h
    · injection h with h
      injection h with h1 h2
      subst h1 h2
      exact ⟨rfl, .z⟩
    · cases h
  | n + 1, l, w, r, h => by
    unfold pG at h
    split at h
    · injection h with h
      injection h with h1 h2
      subst h1 h2
      exact ⟨rfl, .z⟩
    · split at h
      · cases h
      · rename_i a r1 h1
        split at h
        · cases h
        · rename_i b r2 h2
          split at h
          · cases h
          · rename_i ne
            injection h with h
            injection h with e1 e2
            subst e1 e2
            obtain ⟨f1, f2, f3⟩ := pS_sound (P := Wr n) (fun _ _ _ => pG_sound) h1
            obtain ⟨g1, g2, g3⟩ := pS_sound (P := Wr n) (fun _ _ _ => pG_sound) h2
            exact ⟨by rw [f1, g1]; unfold wr; simp, .nd f2 g2 f3 g3 ne⟩
    · cases h
/-- the writing is the only one -/
theorem wr_inj {n : Nat} {a b a' b' : List Tx} (e : wr a b = wr a' b') (p : ∀ x ∈ a, Wr n x) (q : ∀ x ∈ b, Wr n x) (p' : ∀ x ∈ a', Wr n x) (q' : ∀ x ∈ b', Wr n x) : a = a' ∧ b = b' := by
  have hd : ∀ e : Nat, e = 124 ∨ e = 125 → ∀ l : List Tx, (∀ x ∈ l, Wr n x) → ∀ x ∈ l, ∀ r, x ++ r ≠ [] ∧ ∀ s, x ++ r ≠ e :: s := fun e he l hl x hx r => by
    obtain ⟨c, t, rfl, h2⟩ := (hl x hx).head
    exact ⟨by simp, fun s z => by injection z with z; omega⟩
  have pf : ∀ x y, Wr n x → Wr n y → ∀ r s, x ++ r = y ++ s → x = y ∧ r = s := fun x y hx hy r s z => by
    have h1 := pG_full hx r
    rw [z, pG_full hy s] at h1
    injection h1 with h1
    injection h1 with h1 h2
    exact ⟨h1.symm, h2.symm⟩
  unfold wr at e
  injection e with _ e
  obtain ⟨e1, e2⟩ := jc_pf (by decide) (fun x hx r => (List.mem_append.mp hx).elim (fun h => hd 124 (.inl rfl) a p x h r) fun h => hd 124 (.inl rfl) a' p' x h r) (fun x hx y hy => pf x y (p x hx) (p' y hy)) e
  obtain ⟨e3, _⟩ := jc_pf (by decide) (fun x hx r => (List.mem_append.mp hx).elim (fun h => hd 125 (.inr rfl) b q x h r) fun h => hd 125 (.inr rfl) b' q' x h r) (fun x hx y hy => pf x y (q x hx) (q' y hy)) e2
  exact ⟨e1, e3⟩

/-! trees that were read, in the heap -/
theorem cut_mid {l : List Nat} {i k : Nat} (h : i ≤ l.length) : cutS (tS l) (some (i : Int)) (some ((i + k : Nat) : Int)) = tS ((l.drop i).take k) := by
  unfold cutS
  rw [HT.sIx_nat, HT.sIx_nat, tS_len]
  show tS ((l.drop (min i l.length)).take (min (i + k) l.length - min i l.length)) = _
  rw [show min i l.length = i from Nat.min_eq_left (by omega)]
  congr 1
  by_cases c : i + k ≤ l.length
  · rw [Nat.min_eq_left c, Nat.add_sub_cancel_left]
  · rw [Nat.min_eq_right (by omega), List.take_of_length_le (by rw [List.length_drop]; omega), List.take_of_length_le (by rw [List.length_drop]; omega)]
inductive TrAt (H : Hp) : Nat → V → Tx → Prop
  | z {n : Nat} {p a b : Addr} : H p = some (.tup [.ref a, .ref b]) → H a = some (.tup []) → H b = some (.tup []) → TrAt H n (.ref p) [48]
  | nd {n : Nat} {p a b : Addr} {xs ys : List V} {ls rs : List Tx} : H p = some (.tup [.ref a, .ref b]) → H a = some (.tup xs) → H b = some (.tup ys) →
    xs.length = ls.length → ys.length = rs.length → (∀ (i : Nat) x l, xs[i]? = some x → ls[i]? = some l → TrAt H n x l) → (∀ (i : Nat) x l, ys[i]? = some x → rs[i]? = some l → TrAt H n x l) →
    ls.Pairwise (· < ·) → rs.Pairwise (· < ·) → ls ++ rs ≠ [] → TrAt H (n + 1) (.ref p) (wr ls rs)
def TrL (H : Hp) (n : Nat) (xs : List V) (ls : List Tx) : Prop := xs.length = ls.length ∧ ∀ (i : Nat) x l, xs[i]? = some x → ls[i]? = some l → TrAt H n x l
theorem TrAt.keeps {H H' : Hp} {n : Nat} {v : V} {w : Tx} (t : TrAt H n v w) (k : ∀ p ys, H p = some (.tup ys) → H' p = some (.tup ys)) : TrAt H' n v w := by
  induction t with
  | z h1 h2 h3 => exact .z (k _ _ h1) (k _ _ h2) (k _ _ h3)
  | nd h1 h2 h3 l1 l2 _ _ s1 s2 ne i1 i2 => exact .nd (k _ _ h1) (k _ _ h2) (k _ _ h3) l1 l2 i1 i2 s1 s2 ne
theorem TrAt.keep {H H' : Hp} {n : Nat} {v : V} {w : Tx} (t : TrAt H n v w) (k : Keep Nil H H') : TrAt H' n v w := t.keeps fun _ _ h => k.get (fun z => z) h
theorem TrL.keeps {H H' : Hp} {n : Nat} {xs : List V} {ls : List Tx} (t : TrL H n xs ls) (k : ∀ p ys, H p = some (.tup ys) → H' p = some (.tup ys)) : TrL H' n xs ls := ⟨t.1, fun i x l h1 h2 => (t.2 i x l h1 h2).keeps k⟩
theorem TrL.keep {H H' : Hp} {n : Nat} {xs : List V} {ls : List Tx} (t : TrL H n xs ls) (k : Keep Nil H H') : TrL H' n xs ls := t.keeps fun _ _ h => k.get (fun z => z) h
theorem TrL.nil {H : Hp} {n : Nat} : TrL H n [] [] := ⟨rfl, fun i x l h => by simp at h⟩
theorem TrL.snoc {H : Hp} {n : Nat} {xs : List V} {ls : List Tx} {v : V} {w : Tx} (t : TrL H n xs ls) (h : TrAt H n v w) : TrL H n (xs ++ [v]) (ls ++ [w]) := by
  refine ⟨by rw [List.length_append, List.length_append, t.1]; rfl, fun i x l h1 h2 => ?_⟩
  by_cases c : i < xs.length
  · rw [List.getElem?_append_left c] at h1
    rw [List.getElem?_append_left (by rw [← t.1]; exact c)] at h2
    exact t.2 i x l h1 h2
  · have hl := (List.getElem?_eq_some_iff.mp h1).1
    rw [List.length_append] at hl
    have hl : i < xs.length + 1 := hl
    have ei : i = xs.length := by omega
    subst ei
    rw [List.getElem?_append_right (Nat.le_refl _), Nat.sub_self] at h1
    rw [t.1, List.getElem?_append_right (Nat.le_refl _), Nat.sub_self] at h2
    cases h1
    cases h2
    exact h
theorem TrL.app {H : Hp} {n : Nat} {xs ys : List V} {ls ms : List Tx} (t : TrL H n xs ls) (u : TrL H n ys ms) : TrL H n (xs ++ ys) (ls ++ ms) := by
  refine ⟨by rw [List.length_append, List.length_append, t.1, u.1], fun i x l h1 h2 => ?_⟩
  by_cases c : i < xs.length
  · rw [List.getElem?_append_left c] at h1
    rw [List.getElem?_append_left (by rw [← t.1]; exact c)] at h2
    exact t.2 i x l h1 h2
  · rw [List.getElem?_append_right (by omega)] at h1
    rw [List.getElem?_append_right (by rw [← t.1]; omega), ← t.1] at h2
    exact u.2 _ x l h1 h2
theorem TrAt.wr {H : Hp} {n : Nat} {v : V} {w : Tx} (t : TrAt H n v w) : Wr n w := by
  induction t with
  | z _ _ _ => exact .z
  | @nd n p a b xs ys ls rs h1 h2 h3 l1 l2 _ _ s1 s2 ne i1 i2 =>
    have g : ∀ (xs : List V) (ls : List Tx), xs.length = ls.length → (∀ (i : Nat) x l, xs[i]? = some x → ls[i]? = some l → Wr n l) → ∀ l ∈ ls, Wr n l := fun xs ls e h l hl => by
      obtain ⟨i, hi, rfl⟩ := List.getElem_of_mem hl
      exact h i xs[i] _ (List.getElem?_eq_getElem (by omega)) (List.getElem?_eq_getElem hi)
    exact .nd (g xs ls l1 i1) (g ys rs l2 i2) s1 s2 ne
theorem TrL.wr {H : Hp} {n : Nat} {xs : List V} {ls : List Tx} (t : TrL H n xs ls) : ∀ l ∈ ls, Wr n l := fun l hl => by
  obtain ⟨i, hi, rfl⟩ := List.getElem_of_mem hl
  have := t.1
  exact (t.2 i xs[i] _ (List.getElem?_eq_getElem (by omega)) (List.getElem?_eq_getElem hi)).wr
def dZ : PyData := .tuple [.tuple [], .tuple []]
def TrD (K : PySem.W.Frag) (H : Hp) (n : Nat) (v : V) (d : PyData) : Prop := Dp K H v d ∧ d.canLay0 = true ∧ d.depth ≤ 2 * n + 2
theorem dpAll_of {K : PySem.W.Frag} {H : Hp} {n : Nat} : ∀ {xs : List V}, (∀ x ∈ xs, ∃ d, TrD K H n x d) → ∃ ds, DpAll K H xs ds ∧ PyData.canLayAll0 ds = true ∧ PyData.depthAll ds ≤ 2 * n + 2 ∧ ds.length = xs.length
  | [], _ => ⟨[], .nil, by simp [PyData.canLayAll0], by simp [PyData.depthAll], rfl⟩
  | x :: r, h => by
    obtain ⟨ds, h1, h2, h3, h4⟩ := dpAll_of (xs := r) fun y hy => h y (List.mem_cons_of_mem _ hy)
    obtain ⟨d, k1, k2, k3⟩ := h x List.mem_cons_self
    exact ⟨d :: ds, .cons k1 h1, by simp only [PyData.canLayAll0, k2, h2, Bool.and_self], by simp only [PyData.depthAll]; omega, by rw [List.length_cons, List.length_cons, h4]⟩
theorem TrAt.data {K : PySem.W.Frag} {H : Hp} {n : Nat} {v : V} {w : Tx} (t : TrAt H n v w) : ∃ d, TrD K H n v d ∧ PyData.eqv d dZ = decide (w = [48]) := by
  induction t with
  | z h1 h2 h3 =>
    refine ⟨dZ, ⟨.tup (SqT.of h1) (.cons (.tup (SqT.of h2) .nil) (.cons (.tup (SqT.of h3) .nil) .nil)), by simp [dZ, PyData.canLay0, PyData.canLayAll0], by simp [dZ, PyData.depth, PyData.depthAll]⟩, by simp [dZ, PyData.eqv, PyData.eqvAll]⟩
  | @nd n p a b xs ys ls rs h1 h2 h3 l1 l2 _ _ s1 s2 ne i1 i2 =>
    have g : ∀ (xs : List V) (ls : List Tx), xs.length = ls.length → (∀ (i : Nat) x l, xs[i]? = some x → ls[i]? = some l → ∃ d, TrD K H n x d ∧ PyData.eqv d dZ = decide (l = [48])) → ∀ x ∈ xs, ∃ d, TrD K H n x d := fun xs ls e h x hx => by
      obtain ⟨i, hi, rfl⟩ := List.getElem_of_mem hx
      obtain ⟨d, h, _⟩ := h i _ ls[i] (List.getElem?_eq_getElem hi) (List.getElem?_eq_getElem (by omega))
      exact ⟨d, h⟩
    obtain ⟨d1, a1, a2, a3, a4⟩ := dpAll_of (g xs ls l1 i1)
    obtain ⟨d2, b1, b2, b3, b4⟩ := dpAll_of (g ys rs l2 i2)
    refine ⟨.tuple [.tuple d1, .tuple d2], ⟨.tup (SqT.of h1) (.cons (.tup (SqT.of h2) a1) (.cons (.tup (SqT.of h3) b1) .nil)), by simp [PyData.canLay0, PyData.canLayAll0, a2, b2], by simp only [PyData.depth, PyData.depthAll]; omega⟩, ?_⟩
    have : ¬ Hm.wr ls rs = [48] := fun z => by unfold Hm.wr at z; simp at z
    rw [decide_eq_false this]
    have e : ∀ d : List PyData, d ≠ [] → PyData.eqvAll d [] = false := fun d hd => by cases d with
      | nil => exact absurd rfl hd
      | cons x r => simp [PyData.eqvAll]
    simp only [dZ, PyData.eqv, PyData.eqvAll, Bool.and_true]
    by_cases c : ls = []
    · have : rs ≠ [] := fun z => ne (by rw [c, z]; rfl)
      rw [e d2 fun z => this (List.length_eq_zero_iff.mp (by rw [← l2, ← b4, z]; rfl)), Bool.and_false]
    · rw [e d1 fun z => c (List.length_eq_zero_iff.mp (by rw [← l1, ← a4, z]; rfl)), Bool.false_and]
theorem TrL.data {K : PySem.W.Frag} {H : Hp} {n : Nat} {xs : List V} {ls : List Tx} (t : TrL H n xs ls) : ∃ ds, DpAll K H xs ds ∧ PyData.canLayAll0 ds = true ∧ PyData.depthAll ds ≤ 2 * n + 2 ∧ ds.length = xs.length := dpAll_of fun x hx => by
  obtain ⟨i, hi, rfl⟩ := List.getElem_of_mem hx
  have := t.1
  obtain ⟨d, h, _⟩ := (t.2 i _ ls[i] (List.getElem?_eq_getElem hi) (List.getElem?_eq_getElem (by omega))).data (K := K)
  exact ⟨d, h⟩
theorem eqv_nil (ds : List PyData) : PyData.eqv (.list ds) (.list []) = decide (ds.length = 0) := by
  cases ds with
  | nil => simp [PyData.eqv, PyData.eqvAll]
  | cons x r => simp [PyData.eqv, PyData.eqvAll]
theorem lst_sh {ds : List PyData} {n : Nat} (h : PyData.canLayAll0 ds = true) (k : PyData.depthAll ds ≤ n) (s : n ≤ 60) : SeqAt.shaped (.list ds) = true := shaped_of (by simp only [PyData.canLay0]; exact h) (by simp only [PyData.depth]; omega)
theorem nil_sh : SeqAt.shaped (.list []) = true := shaped_of (by simp [PyData.canLay0, PyData.canLayAll0]) (by simp [PyData.depth, PyData.depthAll])

def sp_side_read (n : Nat) (c : Cn) : Sp := fun vs H Q E => vs.length = 4 ∧ ∃ (L : Tx) (at_ e room : Nat), vs = [.str (tS L), .int at_, .str (T1 e), .int room] ∧ (e = 124 ∨ e = 125) ∧ room < n ∧ room ≤ 12 ∧ at_ ≤ L.length ∧ L.length ≤ 20000 ∧
  (pS (pG room) e (L.drop at_) = none → ∀ H', Keep Nil H H' → Q .non H') ∧
  ∀ ws r, pS (pG room) e (L.drop at_) = some (ws, r) → ∀ (H' : Hp) (p m : Addr) (xs : List V), Keep Nil H H' → H' p = some (.tup [.ref m, .int ((L.length - r.length : Nat) : Int)]) → H' m = some (.lst xs) → TrL H' room xs ws → Q (.ref p) H'
def sp_game_read (n : Nat) (c : Cn) : Sp := fun vs H Q E => vs.length = 3 ∧ ∃ (L : Tx) (at_ room : Nat), vs = [.str (tS L), .int at_, .int room] ∧ room < n ∧ room ≤ 12 ∧ at_ ≤ L.length ∧ L.length ≤ 20000 ∧
  (pG room (L.drop at_) = none → ∀ H', Keep Nil H H' → Q .non H') ∧
  ∀ w r, pG room (L.drop at_) = some (w, r) → ∀ (H' : Hp) (p : Addr) (v : V), Keep Nil H H' → H' p = some (.tup [v, .int ((L.length - r.length : Nat) : Int)]) → TrAt H' room v w → Q (.ref p) H'
theorem z_game_read {c : Cn} {vs : List V} {H : Hp} {Q : VK} {E : XK} (h : sp_game_read 0 c vs H Q E) : False := by
  obtain ⟨_, L, at_, room, _, lt, _⟩ := h
  omega
abbrev N_side_read : List Str := ["text", "at", "end", "room", "moves", "last", "found", "sign"]
theorem sc_side_read : FnScope N_side_read ["text", "at", "end", "room"] (defScope s_side_read) := ⟨rfl, rfl, rfl, by decide +kernel, rfl, by decide +kernel, by decide +kernel⟩
def t_side_read (n : Nat) (c : Cn) : TS :=
  (tSeq (tAsg (tLst tNil) (gName 4))
  (tSeq (tAsg (tC (.str "")) (gName 5))
  (tSeq (tIfS (tTest (tOp (cEq c.K) (tSl rSlS (tVar 0) (tPart (tVar 1)) (tPart (tOp (bAdd c.K) (tVar 1) (tC (.int 1))))) (tVar 2)))
  (tRet (tTup (tCons (tVar 4) (tCons (tOp (bAdd c.K) (tVar 1) (tC (.int 1))) tNil))))
  tNext)
  (tWhile (tTru c.K (tC (.bl true)))
  (tSeq (tAsg (tCall (sp_game_read n c) [] E0 (tCons (tVar 0) (tCons (tVar 1) (tCons (tVar 3) tNil)))) (gName 6))
  (tSeq (tIfS (tOr (tTest (tOp cIs (tVar 6) (tC .non))) (tAnd (tTest (tOp (cNe c.K) (tVar 4) (tLst tNil))) (tNot (tTest (tOp (cLt c.K) (tVar 5) (tSl rSlS (tVar 0) (tPart (tVar 1)) (tPart (tOp (bIx c.P c.w c.K) (tVar 6) (tC (.int 1))))))))))
  (tRet (tC .non))
  tNext)
  (tSeq (tDrop (tBM c.K "list" rAppend (tVar 4) (tCons (tOp (bIx c.P c.w c.K) (tVar 6) (tC (.int 0))) tNil)))
  (tSeq (tAsg (tSl rSlS (tVar 0) (tPart (tVar 1)) (tPart (tOp (bIx c.P c.w c.K) (tVar 6) (tC (.int 1))))) (gName 5))
  (tSeq (tAsg (tOp (bAdd c.K) (tOp (bIx c.P c.w c.K) (tVar 6) (tC (.int 1))) (tC (.int 1))) (gName 1))
  (tSeq (tAsg (tSl rSlS (tVar 0) (tPart (tOp (bIx c.P c.w c.K) (tVar 6) (tC (.int 1)))) (tPart (tVar 1))) (gName 7))
  (tSeq (tIfS (tTest (tOp (cEq c.K) (tVar 7) (tVar 2)))
  (tRet (tTup (tCons (tVar 4) (tCons (tVar 1) tNil))))
  tNext)
  (tIfS (tTest (tOp (cNe c.K) (tVar 7) (tC (.str ","))))
  (tRet (tC .non))
  tNext))))))))))))
abbrev N_game_read : List Str := ["text", "at", "room", "left", "right"]
theorem sc_game_read : FnScope N_game_read ["text", "at", "room"] (defScope s_game_read) := ⟨rfl, rfl, rfl, by decide +kernel, rfl, by decide +kernel, by decide +kernel⟩
def t_game_read (n : Nat) (c : Cn) : TS :=
  (tSeq (tIfS (tTest (tOp (cEq c.K) (tSl rSlS (tVar 0) (tPart (tVar 1)) (tPart (tOp (bAdd c.K) (tVar 1) (tC (.int 1))))) (tC (.str "0"))))
  (tRet (tTup (tCons (tTup (tCons (tTup tNil) (tCons (tTup tNil) tNil))) (tCons (tOp (bAdd c.K) (tVar 1) (tC (.int 1))) tNil))))
  tNext)
  (tSeq (tIfS (tOr (tTest (tOp (cNe c.K) (tSl rSlS (tVar 0) (tPart (tVar 1)) (tPart (tOp (bAdd c.K) (tVar 1) (tC (.int 1))))) (tC (.str "{")))) (tTest (tOp (cEq c.K) (tVar 2) (tC (.int 0)))))
  (tRet (tC .non))
  tNext)
  (tSeq (tAsg (tCall (sp_side_read n c) [] E0 (tCons (tVar 0) (tCons (tOp (bAdd c.K) (tVar 1) (tC (.int 1))) (tCons (tC (.str "|")) (tCons (tOp bSub (tVar 2) (tC (.int 1))) tNil))))) (gName 3))
  (tSeq (tIfS (tTest (tOp cIs (tVar 3) (tC .non)))
  (tRet (tC .non))
  tNext)
  (tSeq (tAsg (tCall (sp_side_read n c) [] E0 (tCons (tVar 0) (tCons (tOp (bIx c.P c.w c.K) (tVar 3) (tC (.int 1))) (tCons (tC (.str "}")) (tCons (tOp bSub (tVar 2) (tC (.int 1))) tNil))))) (gName 4))
  (tSeq (tIfS (tOr (tTest (tOp cIs (tVar 4) (tC .non))) (tTest (tOp (cEq c.K) (tOp (bAdd c.K) (tOp (bIx c.P c.w c.K) (tVar 3) (tC (.int 0))) (tOp (bIx c.P c.w c.K) (tVar 4) (tC (.int 0)))) (tLst tNil))))
  (tRet (tC .non))
  tNext)
  (tRet (tTup (tCons (tTup (tCons (tCB (kTuple c.K) (tCons (tOp (bIx c.P c.w c.K) (tVar 3) (tC (.int 0))) tNil)) (tCons (tCB (kTuple c.K) (tCons (tOp (bIx c.P c.w c.K) (tVar 4) (tC (.int 0))) tNil)) tNil))) (tCons (tOp (bIx c.P c.w c.K) (tVar 4) (tC (.int 1))) tNil))))))))))
theorem tS_one {l : Tx} {e : Nat} : tS (l.take 1) = T1 e ↔ ∃ r, l = e :: r := by
  constructor
  · intro h
    have h : l.take 1 = [e] := tS_inj h
    cases l with
    | nil => cases h
    | cons c r =>
      injection h with h _
      exact ⟨r, by rw [h]⟩
  · rintro ⟨r, rfl⟩
    rfl
theorem drop_le {L r w : Tx} {a : Nat} (h : L.drop a = w ++ r) (la : a ≤ L.length) : r.length + w.length + a = L.length ∧ L.drop (L.length - r.length) = r := by
  have e : L.length - a = w.length + r.length := by rw [← List.length_drop, h, List.length_append]
  refine ⟨by omega, ?_⟩
  have : L.length - r.length = a + w.length := by omega
  rw [this, ← List.drop_drop, h, List.drop_append_of_le_length (Nat.le_refl _), List.drop_length, List.nil_append]
def SrW (H : Hp) (L : Tx) (a e room : Nat) (m : Addr) : Nat → L2.St → Hp → Prop := fun q σ H' => ∃ (x6 x7 : Option V) (a' k : Nat) (last : Option Tx) (lv : Tx) (ms : List Tx) (xs : List V), σ = [some (.str (tS L)), some (.int a'), some (.str (T1 e)), some (.int room), some (.ref m), some (.str (tS lv)), x6, x7] ∧ Keep Nil H H' ∧ H' m = some (.lst xs) ∧ TrL H' room xs ms ∧ a' ≤ L.length ∧ q = (L.drop a').length ∧ q < k ∧ ms.length + q ≤ L.length ∧ (ms = [] ∧ last = none ∨ ms ≠ [] ∧ last = some lv) ∧
  pS (pG room) e (L.drop a) = (match pL (pG room) e k last (L.drop a') with | none => none | some (ws, r) => some (ms ++ ws, r))
theorem p_side_read {n : Nat} {c : Cn} {mg : Str → Option Value} (T : Txt c mg) {vs : List V} {H : Hp} {Q : VK} {E : XK} (h : sp_side_read n c vs H Q E) : t_side_read n c { nx := fun _ H' => Q .non H', rt := Q } (start N_side_read vs) H := by
  obtain ⟨_, L, a, e, room, rfl, he, rn, r12, la, lL, kn, ks⟩ := h
  have ne44 : e ≠ 44 := by omega
  have lS : (tS L).length ≤ 100000 := by rw [tS_len]; omega
  unfold t_side_read
  repeat kaf_suf
  intro m hm
  have k0 : Keep Nil H (upd H m (.lst [])) := Keep.alloc hm
  have e0 : (upd H m (.lst [])) m = some (.lst []) := upd_same
  generalize upd H m (.lst []) = H0 at k0 e0 ⊢
  repeat kaf_suf
  refine v_slS lS ?_
  have c1 : cutS (tS L) (some (a : Int)) (some ((a : Int) + 1)) = tS ((L.drop a).take 1) := cut_mid (k := 1) la
  rw [c1]
  repeat kaf_suf
  refine r_ite (fun q => ?_) (fun q => ?_)
  · obtain ⟨r, hr⟩ := tS_one.mp q
    have dr := drop_le (w := [e]) (r := r) hr la
    have dr1 : r.length + 1 + a = L.length := dr.1
    repeat kaf_suf
    intro p hp
    have ep : pS (pG room) e (L.drop a) = some ([], r) := by rw [hr]; unfold pS; simp
    exact ks [] r ep _ p m [] (k0.new hp) (by rw [upd_same]; have : ((L.length - r.length : Nat) : Int) = (a : Int) + 1 := by omega
                                              rw [this]) (get_new hp e0) TrL.nil
  have q : ¬ ∃ r, L.drop a = e :: r := fun z => q (tS_one.mpr z)
  have ep : pS (pG room) e (L.drop a) = pL (pG room) e ((L.drop a).length + 1) none (L.drop a) := by
    generalize L.drop a = D at q ⊢
    cases D with
    | nil => unfold pS; rfl
    | cons x D =>
      unfold pS
      simp only
      rw [if_neg fun z => q ⟨D, by rw [z]⟩]
  repeat kaf_suf
  refine ⟨SrW H L a e room m, ⟨_, _, _, a, _, none, [], [], [], rfl, k0, e0, TrL.nil, la, rfl, Nat.lt_succ_self _, by rw [List.length_drop, List.length_nil]; omega, .inl ⟨rfl, rfl⟩, ?_⟩, ?_⟩
  · rw [ep]
    cases pL (pG room) e ((L.drop a).length + 1) none (L.drop a) <;> rfl
  rintro q' σ H1 ⟨x6, x7, a', k, last, lv, ms, xs, rfl, k1, e1, t1, la', rfl, qk, mq, hl, eq⟩
  obtain ⟨k', rfl⟩ : ∃ k', k = k' + 1 := ⟨k - 1, by omega⟩
  repeat kaf_suf
  refine ⟨_, fun σ' H' (z : ∃ m', m' < _ ∧ SrW H L a e room m m' σ' H') => z, ?_⟩
  repeat kaf_suf
  refine ⟨rfl, L, a', room, rfl, rn, r12, la', lL, fun no H2 k2 => ?_, fun w r so H2 p v k2 ep2 tv => ?_⟩
  · have kn' := kn (by rw [eq]; unfold pL; rw [no])
    repeat kaf_suf
    exact kn' _ (k1.trans k2)
  obtain ⟨hL, wrw⟩ := pG_sound so
  obtain ⟨dl, dr⟩ := drop_le hL la'
  have e2 := k2.get (fun z => z) e1
  have t2 := t1.keep k2
  have k12 := k1.trans k2
  repeat kaf_suf
  refine r_ite (fun z => by cases z) (fun _ => ?_)
  have eq0 : pL (pG room) e (k' + 1) last (L.drop a') = (if ∃ v, last = some v ∧ ¬ v < w then none else match r with
      | [] => none
      | c :: r' => if c = e then some ([w], r') else if c = 44 then (match pL (pG room) e k' (some w) r' with
        | none => none
        | some (ws, r2) => some (w :: ws, r2)) else none) := by
    conv => lhs; unfold pL
    (rw [so]) <;> rfl
  have cw : cutS (tS L) (some (a' : Int)) (some ((L.length - r.length : Nat) : Int)) = tS w := by
    rw [show L.length - r.length = a' + w.length by omega, cut_mid la', hL, List.take_left]
  apply r_join (H1 := H2) (A := ∀ v, last = some v → v < w)
  · intro key
    repeat kaf_suf
    intro nl hnl
    obtain ⟨ds, d1, d2, d3, d4⟩ := (t2.keep (Keep.alloc (o := .lst []) hnl)).data (K := c.K)
    refine v_neD (.lst (SqL.of (get_new hnl e2)) d1) (.lst (SqL.of upd_same) .nil) (lst_sh d2 d3 (by omega)) nil_sh ?_
    rw [eqv_nil, d4]
    have kq : Keep Nil H2 (upd H2 nl (.lst [])) := Keep.alloc hnl
    have e3 := get_new (u := .lst []) hnl ep2
    generalize upd H2 nl (.lst []) = H3 at kq e3 ⊢
    clear d1
    refine r_kB ?_
    by_cases x0 : xs.length = 0
    · rw [decide_eq_true x0, Bool.not_true, if_neg Bool.false_ne_true]
      repeat kaf_suf
      exact key (fun v hv => by
        rcases hl with ⟨h1, h⟩ | ⟨h, _⟩
        · rw [h] at hv; cases hv
        · exact absurd (List.length_eq_zero_iff.mp (by rw [← t1.1]; exact x0)) h) _ kq
    · rw [decide_eq_false x0, Bool.not_false, if_pos rfl]
      have hlast : last = some lv := by
        rcases hl with ⟨h1, h⟩ | ⟨_, h⟩
        · exact absurd (by rw [t1.1, h1]; rfl) x0
        · exact h
      repeat kaf_suf
      refine v_slS lS ?_
      rw [cw]
      repeat kaf_suf
      refine r_iteN (fun nl' => ?_) (fun lt => ?_)
      · repeat kaf_suf
        exact kn (by rw [eq, eq0, if_pos ⟨lv, hlast, nl'⟩]) _ (k12.trans kq)
      · repeat kaf_suf
        exact key (fun v hv => by rw [hlast] at hv; cases hv; exact lt) _ kq
  intro good H3 k3
  have e3 := k3.get (fun z => z) e2
  have ep3 := k3.get (fun z => z) ep2
  have t3 := (t2.keep k3).snoc (tv.keep k3)
  have eq1 : pL (pG room) e (k' + 1) last (L.drop a') = _ := eq0.trans (if_neg fun ⟨v, h1, h2⟩ => h2 (good v h1))
  have mp : p ≠ m := fun z => by rw [z, e2] at ep2; cases ep2
  have k13 := k12.trans k3
  clear eq0 good t2 tv e1 t1 k1 k2 e2 ep2 k12 k3
  refine v_append e3 (few1 (by have := t3.1; rw [List.length_append, List.length_append] at this; have : xs.length = ms.length := by simpa using this
                               omega)) ?_
  have k14 : Keep Nil H (upd H3 m (.lst (xs ++ [v]))) := k13.setN hm
  have e4 : (upd H3 m (.lst (xs ++ [v]))) m = some (.lst (xs ++ [v])) := upd_same
  have ep4 := get_set (u := .lst (xs ++ [v])) mp ep3
  have t4 : TrL (upd H3 m (.lst (xs ++ [v]))) room (xs ++ [v]) (ms ++ [w]) := t3.keeps fun q ys h => get_set (fun z => by rw [z, e3] at h; cases h) h
  generalize upd H3 m (.lst (xs ++ [v])) = H4 at k14 e4 ep4 t4 ⊢
  repeat kaf_suf
  refine v_slS lS ?_
  rw [cw]
  repeat kaf_suf
  have c3 : cutS (tS L) (some ((L.length - r.length : Nat) : Int)) (some (((L.length - r.length : Nat) : Int) + 1)) = tS (r.take 1) := by
    have := cut_mid (l := L) (i := L.length - r.length) (k := 1) (by omega)
    rw [dr] at this
    exact this
  refine v_slS lS ?_
  rw [c3]
  repeat kaf_suf
  refine r_ite (fun q1 => ?_) (fun q1 => ?_)
  · obtain ⟨r', rfl⟩ := tS_one.mp q1
    repeat kaf_suf
    intro z hz
    have lr : (e :: r').length = r'.length + 1 := rfl
    have ee : ((L.length - r'.length : Nat) : Int) = ((L.length - (e :: r').length : Nat) : Int) + 1 := by omega
    refine ks (ms ++ [w]) r' (by rw [eq, eq1]; simp) _ z m (xs ++ [v]) (k14.new hz) (by rw [upd_same, ee]) (get_new hz e4) (t4.keep (Keep.alloc hz))
  have q2 : ¬ ∃ r', r = e :: r' := fun z => q1 (tS_one.mpr z)
  repeat kaf_suf
  refine r_iteN (fun q3 => ?_) (fun q3 => ?_)
  · repeat kaf_suf
    refine kn ?_ _ k14
    rw [eq, eq1]
    cases r with
    | nil => rfl
    | cons x r' =>
      have n1 : x ≠ e := fun z => q2 ⟨r', by rw [z]⟩
      have n2 : x ≠ 44 := fun z => q3 (by rw [z]; rfl)
      simp only [if_neg n1, if_neg n2]
  · obtain ⟨r', rfl⟩ := tS_one.mp (show tS (r.take 1) = T1 44 from q3)
    have lr : (44 :: r').length = r'.length + 1 := rfl
    obtain ⟨dl1, dr1⟩ := drop_le (w := w ++ [44]) (r := r') (by rw [hL, List.append_assoc]; rfl) la'
    have da : (L.drop a').length = w.length + (r'.length + 1) := by rw [hL, List.length_append]; rfl
    have ea : ((L.length - (44 :: r').length : Nat) : Int) + 1 = ((L.length - r'.length : Nat) : Int) := by omega
    repeat kaf_suf
    rw [ea]
    refine ⟨r'.length, by omega, _, _, L.length - r'.length, k', some w, w, ms ++ [w], xs ++ [v], rfl, k14, e4, t4, by omega, by rw [dr1], by omega, by rw [List.length_append, List.length_singleton]; omega, .inr ⟨by simp, rfl⟩, ?_⟩
    rw [eq, eq1, dr1]
    simp only [if_neg (Ne.symm ne44), if_true]
    cases pL (pG room) e k' (some w) r' <;> simp
theorem cal_side_read {c : Cn} {mg : Str → Option Value} {base : Heap} (T : Txt c mg) (n : Nat) (hg : Cal c.P c.w c.K mg base CX0 (2 * n + 1) "game_read" (sp_game_read n c)) : Cal c.P c.w c.K mg base CX0 (2 * n + 2) "side_read" (sp_side_read n c) := by
  obtain ⟨f, fd, F, g, b⟩ := T.F_side_read
  exact ⟨f, fd, ["text", "at", "end", "room"], F.ok (k := 2 * n + 1) (N := N_side_read) sc_side_read (fun vs H Q E h => h.1) (fun cdv A outer s H vs Q E hr h => ⟨t_side_read n c, by
  exact (pss_cons (ps_set (i := 4) sc_side_read.nd rfl (Or.inl rfl) (pe_lst pa_nil))
  (pss_cons (ps_set (i := 5) sc_side_read.nd rfl (Or.inl rfl) pe_str)
  (pss_cons (ps_if (pt_cmpR (o_eq (hu64 hr)) (pe_slice sl_str (pv 0) (po_some (pv 1)) (po_some (pe_op o_add (pv 1) pe_int))) (pv 2) (nomark _)) (pss_one (ps_ret (pe_tup (pa_cons (pv 4) (pa_cons (pe_op o_add (pv 1) pe_int) pa_nil))))) pss_nil)
  (pss_one (ps_while PassesOwn.never (p_tru pe_bl)
  (pss_cons (ps_set (i := 6) sc_side_read.nd rfl (Or.inl rfl) (e_call (hg) hr (by omega) pass0 rfl (pa_cons (pv 0) (pa_cons (pv 1) (pa_cons (pv 3) pa_nil)))))
  (pss_cons (ps_if (PW.pt (pw_or (pt_cmpR o_is (pv 6) pe_non (nomark _)) (pw_or1 (PW.pt (pw_and (pt_cmpR (o_ne (hu64 hr)) (pv 4) (pe_lst pa_nil) (nomark _)) (pw_and1 (pt_not (pt_cmpR (o_lt (hu64 hr)) (pv 5) (pe_slice sl_str (pv 0) (po_some (pv 1)) (po_some (pe_ix (x_ix (hu64 hr)) (pv 6) pe_int (fun _ _ => rfl)))) (nomark _))))))))) (pss_one (ps_ret pe_non)) pss_nil)
  (pss_cons (ps_expr (pe_bm PySem.F.plainAttrs_list PySem.F.slot_list_append PySem.F.type_list_append mt_append (pv 4) (pa_cons (pe_ix (x_ix (hu64 hr)) (pv 6) pe_int (fun _ _ => rfl)) pa_nil)))
  (pss_cons (ps_set (i := 5) sc_side_read.nd rfl (Or.inl rfl) (pe_slice sl_str (pv 0) (po_some (pv 1)) (po_some (pe_ix (x_ix (hu64 hr)) (pv 6) pe_int (fun _ _ => rfl)))))
  (pss_cons (ps_set (i := 1) sc_side_read.nd rfl (Or.inl rfl) (pe_op o_add (pe_ix (x_ix (hu64 hr)) (pv 6) pe_int (fun _ _ => rfl)) pe_int))
  (pss_cons (ps_set (i := 7) sc_side_read.nd rfl (Or.inl rfl) (pe_slice sl_str (pv 0) (po_some (pe_ix (x_ix (hu64 hr)) (pv 6) pe_int (fun _ _ => rfl))) (po_some (pv 1))))
  (pss_cons (ps_if (pt_cmpR (o_eq (hu64 hr)) (pv 7) (pv 2) (nomark _)) (pss_one (ps_ret (pe_tup (pa_cons (pv 4) (pa_cons (pv 1) pa_nil))))) pss_nil)
  (pss_one (ps_if (pt_cmpR (o_ne (hu64 hr)) (pv 7) pe_str (nomark _)) (pss_one (ps_ret pe_non)) pss_nil)))))))))))))), p_side_read T h⟩), g, F.kp, b⟩
theorem p_game_read {n : Nat} {c : Cn} {mg : Str → Option Value} (T : Txt c mg) {vs : List V} {H : Hp} {Q : VK} {E : XK} (h : sp_game_read (n + 1) c vs H Q E) : t_game_read n c { nx := fun _ H' => Q .non H', rt := Q } (start N_game_read vs) H := by
  obtain ⟨_, L, a, room, rfl, rn, r12, la, lL, kn, ks⟩ := h
  have lS : (tS L).length ≤ 100000 := by rw [tS_len]; omega
  have c1 : cutS (tS L) (some (a : Int)) (some ((a : Int) + 1)) = tS ((L.drop a).take 1) := cut_mid (k := 1) la
  unfold t_game_read
  repeat kaf_suf
  refine v_slS lS ?_
  rw [c1]
  repeat kaf_suf
  refine r_ite (fun q => ?_) (fun q => ?_)
  · obtain ⟨r, hr⟩ := tS_one.mp (show tS ((L.drop a).take 1) = T1 48 from q)
    have dr := drop_le (w := [48]) (r := r) hr la
    have dr1 : r.length + 1 + a = L.length := dr.1
    repeat kaf_suf
    intro x1 hx1
    repeat kaf_suf
    intro x2 hx2
    repeat kaf_suf
    intro x3 hx3
    repeat kaf_suf
    intro p hp
    have ep : pG room (L.drop a) = some ([48], r) := by rw [hr]; cases room <;> rfl
    have ee : ((L.length - r.length : Nat) : Int) = (a : Int) + 1 := by omega
    refine ks [48] r ep _ p (.ref x3) ((((Keep.alloc hx1).new hx2).new hx3).new hp) (by rw [upd_same, ee]) (.z (a := x1) (b := x2) ?_ ?_ ?_)
    · kaf_pre
    · kaf_pre
    · kaf_pre
  have q48 : ¬ ∃ r, L.drop a = 48 :: r := fun z => q (tS_one.mpr z)
  repeat kaf_suf
  refine v_slS lS ?_
  rw [c1]
  repeat kaf_suf
  refine r_iteN (fun q1 => ?_) (fun q1 => ?_)
  · repeat kaf_suf
    have q123 : ¬ ∃ r, L.drop a = 123 :: r := fun z => q1 (tS_one.mpr z)
    refine kn ?_ _ Keep.refl
    generalize L.drop a = D at q48 q123 ⊢
    cases room with
    | zero =>
      unfold pG
      split
      · rename_i r; exact absurd ⟨r, rfl⟩ q48
      · rfl
    | succ room =>
      unfold pG
      split
      · rename_i r; exact absurd ⟨r, rfl⟩ q48
      · rename_i r; exact absurd ⟨r, rfl⟩ q123
      · rfl
  obtain ⟨r0, hr0⟩ := tS_one.mp (show tS ((L.drop a).take 1) = T1 123 from q1)
  obtain ⟨dl0, dr0⟩ := drop_le (w := [123]) (r := r0) hr0 la
  have dl0 : r0.length + 1 + a = L.length := dl0
  repeat kaf_suf
  refine r_ite (fun z0 => ?_) (fun z0 => ?_)
  · have : room = 0 := by omega
    subst this
    repeat kaf_suf
    refine kn ?_ _ Keep.refl
    rw [hr0]; rfl
  obtain ⟨rm, rfl⟩ : ∃ rm, room = rm + 1 := ⟨room - 1, by omega⟩
  have da : L.drop (a + 1) = r0 := by rw [← dr0]; congr 1; omega
  have eG : pG (rm + 1) (L.drop a) = (match pS (pG rm) 124 r0 with
      | none => none
      | some (a, r1) => match pS (pG rm) 125 r1 with
        | none => none
        | some (b, r2) => if a ++ b = [] then none else some (wr a b, r2)) := by rw [hr0]; rfl
  repeat kaf_suf
  refine ⟨rfl, L, a + 1, 124, rm, by rw [show ((rm + 1 : Nat) : Int) - 1 = (rm : Int) by omega]; rfl, .inl rfl, by omega, by omega, by omega, lL, fun no H1 k1 => ?_, fun ws r1 so H1 p1 m1 xs k1 ep1 em1 t1 => ?_⟩
  · rw [da] at no
    repeat kaf_suf
    exact kn (by rw [eG, no]) _ k1
  rw [da] at so
  rw [so] at eG
  have S1 := pS_sound (P := Wr rm) (fun _ _ _ => pG_sound) so
  obtain ⟨dl1, dr1⟩ := drop_le (L := L) (a := a + 1) (w := jc ws ++ [124]) (r := r1) (by rw [da, S1.1, List.append_assoc]; rfl) (by omega)
  repeat kaf_suf
  refine r_ite (fun z => by cases z) (fun _ => ?_)
  repeat kaf_suf
  have eG2 : pG (rm + 1) (L.drop a) = (match pS (pG rm) 125 r1 with
      | none => none
      | some (b, r2) => if ws ++ b = [] then none else some (wr ws b, r2)) := eG
  clear eG
  refine ⟨rfl, L, L.length - r1.length, 125, rm, by rw [show ((rm + 1 : Nat) : Int) - 1 = (rm : Int) by omega]; rfl, .inr rfl, by omega, by omega, by omega, lL, fun no2 H2 k2 => ?_, fun ws2 r2 so2 H2 p2 m2 ys k2 ep2 em2 t2 => ?_⟩
  · rw [dr1] at no2
    repeat kaf_suf
    exact kn (by rw [eG2, no2]) _ (k1.trans k2)
  rw [dr1] at so2
  rw [so2] at eG2
  have eG3 : pG (rm + 1) (L.drop a) = if ws ++ ws2 = [] then none else some (wr ws ws2, r2) := eG2
  clear eG2
  have S2 := pS_sound (P := Wr rm) (fun _ _ _ => pG_sound) so2
  obtain ⟨dl2, dr2⟩ := drop_le (L := L) (a := L.length - r1.length) (w := jc ws2 ++ [125]) (r := r2) (by rw [dr1, S2.1, List.append_assoc]; rfl) (by omega)
  have h12 := k1.trans k2
  have ep12 := k2.get (fun z => z) ep1
  have em12 := k2.get (fun z => z) em1
  have t12 := t1.keep k2
  have wl1 := jc_size (ws := ws) fun x hx => by obtain ⟨c, t, h, _⟩ := (S1.2.1 x hx).head; rw [h]; exact List.cons_ne_nil _ _
  have wl2 := jc_size (ws := ws2) fun x hx => by obtain ⟨c, t, h, _⟩ := (S2.2.1 x hx).head; rw [h]; exact List.cons_ne_nil _ _
  rw [List.length_append, List.length_singleton] at dl1 dl2
  have xl1 := t1.1
  have xl2 := t2.1
  repeat kaf_suf
  refine r_ite (fun z => by cases z) (fun _ => ?_)
  repeat kaf_suf
  refine v_addL em12 em2 (few2 (by omega)) fun y hy => ?_
  have kY : Keep Nil H2 (upd H2 y (.lst (xs ++ ys))) := Keep.alloc hy
  have eY : (upd H2 y (.lst (xs ++ ys))) y = some (.lst (xs ++ ys)) := upd_same
  generalize upd H2 y (.lst (xs ++ ys)) = H3 at kY eY ⊢
  repeat kaf_suf
  intro nl hnl
  have kN := kY.new (o := .lst []) hnl
  obtain ⟨ds, d1, d2, d3, d4⟩ := (t12.app t2).keep kN |>.data (K := c.K)
  refine v_eqD (.lst (SqL.of (get_new hnl eY)) d1) (.lst (SqL.of upd_same) .nil) (lst_sh d2 d3 (by omega)) nil_sh ?_
  rw [eqv_nil, d4]
  clear d1 kY eY
  have em3 := kN.get (fun z => z) em12
  have em4 := kN.get (fun z => z) em2
  have ep3 := kN.get (fun z => z) ep12
  have ep4 := kN.get (fun z => z) ep2
  have t3 := t12.keep kN
  have t4 := t2.keep kN
  have h13 := h12.trans kN
  generalize upd H3 nl (.lst []) = H4 at kN em3 em4 ep3 ep4 t3 t4 h13 ⊢
  clear kN hy hnl t12 t2 t1 em12 em2 em1 ep12 ep2 ep1 k1 k2 h12
  refine r_kB (r_ite (fun z => ?_) (fun z => ?_))
  · repeat kaf_suf
    refine kn ?_ _ h13
    rw [eG3, if_pos (List.length_eq_zero_iff.mp (by rw [List.length_append] at z ⊢; omega))]
  have ne : ws ++ ws2 ≠ [] := fun q => z (by rw [List.length_append, xl1, xl2, ← List.length_append, q]; rfl)
  rw [if_neg ne] at eG3
  repeat kaf_suf
  intro a1 ha1
  repeat kaf_suf
  intro a2 ha2
  repeat kaf_suf
  intro q hq
  repeat kaf_suf
  intro p hp
  have kz := (((Keep.alloc (M := Nil) (o := .tup xs) ha1).new (o := .tup ys) ha2).new (o := .tup [.ref a1, .ref a2]) hq).new (o := .tup [.ref q, .int ((L.length - r2.length : Nat) : Int)]) hp
  have u1 := t3.keep kz
  have u2 := t4.keep kz
  refine ks (wr ws ws2) r2 eG3 _ p (.ref q) (h13.trans kz) upd_same (.nd (a := a1) (b := a2) (xs := xs) (ys := ys) ?_ ?_ ?_ xl1 xl2 u1.2 u2.2 S1.2.2 S2.2.2 ne)
  · kaf_pre
  · kaf_pre
  · kaf_pre
theorem cal_game_read {c : Cn} {mg : Str → Option Value} {base : Heap} (T : Txt c mg) : ∀ n : Nat, Cal c.P c.w c.K mg base CX0 (2 * n + 1) "game_read" (sp_game_read n c)
  | 0 => by
    obtain ⟨f, fd, F, g, b⟩ := T.F_game_read
    exact ⟨f, fd, ["text", "at", "room"], F.ok (k := 0) (N := N_game_read) sc_game_read (fun vs H Q E h => (z_game_read h).elim) (fun cdv A outer s H vs Q E hr h => (z_game_read h).elim), g, F.kp, b⟩
  | n + 1 => by
    obtain ⟨f, fd, F, g, b⟩ := T.F_game_read
    exact ⟨f, fd, ["text", "at", "room"], F.ok (k := 2 * n + 2) (N := N_game_read) sc_game_read (fun vs H Q E h => h.1) (fun cdv A outer s H vs Q E hr h => ⟨t_game_read n c, by
  exact (pss_cons (ps_if (pt_cmpR (o_eq (hu64 hr)) (pe_slice sl_str (pv 0) (po_some (pv 1)) (po_some (pe_op o_add (pv 1) pe_int))) pe_str (nomark _)) (pss_one (ps_ret (pe_tup (pa_cons (pe_tup (pa_cons (pe_tup pa_nil) (pa_cons (pe_tup pa_nil) pa_nil))) (pa_cons (pe_op o_add (pv 1) pe_int) pa_nil))))) pss_nil)
  (pss_cons (ps_if (PW.pt (pw_or (pt_cmpR (o_ne (hu64 hr)) (pe_slice sl_str (pv 0) (po_some (pv 1)) (po_some (pe_op o_add (pv 1) pe_int))) pe_str (nomark _)) (pw_or1 (pt_cmpR (o_eq (hu64 hr)) (pv 2) pe_int (nomark _))))) (pss_one (ps_ret pe_non)) pss_nil)
  (pss_cons (ps_set (i := 3) sc_game_read.nd rfl (Or.inl rfl) (e_call (cal_side_read T n (cal_game_read T n)) hr (by omega) pass0 rfl (pa_cons (pv 0) (pa_cons (pe_op o_add (pv 1) pe_int) (pa_cons pe_str (pa_cons (pe_op o_sub (pv 2) pe_int) pa_nil))))))
  (pss_cons (ps_if (pt_cmpR o_is (pv 3) pe_non (nomark _)) (pss_one (ps_ret pe_non)) pss_nil)
  (pss_cons (ps_set (i := 4) sc_game_read.nd rfl (Or.inl rfl) (e_call (cal_side_read T n (cal_game_read T n)) hr (by omega) pass0 rfl (pa_cons (pv 0) (pa_cons (pe_ix (x_ix (hu64 hr)) (pv 3) pe_int (fun _ _ => rfl)) (pa_cons pe_str (pa_cons (pe_op o_sub (pv 2) pe_int) pa_nil))))))
  (pss_cons (ps_if (PW.pt (pw_or (pt_cmpR o_is (pv 4) pe_non (nomark _)) (pw_or1 (pt_cmpR (o_eq (hu64 hr)) (pe_op o_add (pe_ix (x_ix (hu64 hr)) (pv 3) pe_int (fun _ _ => rfl)) (pe_ix (x_ix (hu64 hr)) (pv 4) pe_int (fun _ _ => rfl))) (pe_lst pa_nil) (nomark _))))) (pss_one (ps_ret pe_non)) pss_nil)
  (pss_one (ps_ret (pe_tup (pa_cons (pe_tup (pa_cons (pe_callTy k_tuple (by rfl) T.n_tuple (by decide +kernel) (pa_cons (pe_ix (x_ix (hu64 hr)) (pv 3) pe_int (fun _ _ => rfl)) pa_nil)) (pa_cons (pe_callTy k_tuple (by rfl) T.n_tuple (by decide +kernel) (pa_cons (pe_ix (x_ix (hu64 hr)) (pv 4) pe_int (fun _ _ => rfl)) pa_nil)) pa_nil))) (pa_cons (pe_ix (x_ix (hu64 hr)) (pv 4) pe_int (fun _ _ => rfl)) pa_nil))))))))))), p_game_read T h⟩), g, F.kp, b⟩

/-! texts of games in a book that grows -/
theorem mvs_app' {gs F : List Gm} {g : Nat} {s : Bool} (h : g < gs.length) : mvs (gs ++ F) g s = mvs gs g s := by
  unfold mvs
  rw [List.getElem?_append_left h]
theorem txt_app {gs F : List Gm} (o : GOk gs) : ∀ (n g : Nat), g < gs.length → g < n → txt (gs ++ F) n g = txt gs n g
  | n + 1, g, hg, hn => by
    unfold txt
    split
    · rfl
    · have e : ∀ s, (mvs (gs ++ F) g s).map (fun z => txt (gs ++ F) n z.toNat) = (mvs gs g s).map fun z => txt gs n z.toNat := fun s => by
        rw [mvs_app' hg]
        exact List.map_congr_left fun z hz => by
          have := mvs_lo o hg hz
          exact txt_app o n _ (by omega) (by omega)
      rw [e true, e false]
theorem tx_app {gs F : List Gm} (o : GOk gs) {g : Nat} (h : g < gs.length) : tx (gs ++ F) g = tx gs g := txt_app o _ _ h (by omega)
theorem tx_new {gs : List Gm} (o : GOk gs) {y : Nat} {l r : List Int} (h : gs[y]? = some (canon l, canon r)) (ne : l ++ r ≠ []) : tx gs y = wr (canonT (l.map fun z => tx gs z.toNat)) (canonT (r.map fun z => tx gs z.toNat)) := by
  have hy := (List.getElem?_eq_some_iff.mp h).1
  have y0 : y ≠ 0 := fun z => by
    subst z
    rw [o.zero] at h
    injection h with h
    injection h with e1 e2
    obtain ⟨x, hx⟩ := List.exists_mem_of_ne_nil _ ne
    rcases List.mem_append.mp hx with hx | hx
    · have := canon_mem.mpr hx
      rw [← e1] at this; exact nomatch this
    · have := canon_mem.mpr hx
      rw [← e2] at this; exact nomatch this
  rw [tx_eq o hy y0]
  have em : ∀ s, mvs gs y s = canon (if s then l else r) := fun s => by
    unfold mvs; rw [h]; cases s <;> rfl
  rw [em true, em false]
  have cg : ∀ l : List Int, canonT ((canon l).map fun z => tx gs z.toNat) = canonT (l.map fun z => tx gs z.toNat) := fun l => canonT_congr fun x => by
    rw [List.mem_map, List.mem_map]
    exact ⟨fun ⟨z, h1, h2⟩ => ⟨z, canon_mem.mp h1, h2⟩, fun ⟨z, h1, h2⟩ => ⟨z, canon_mem.mpr h1, h2⟩⟩
  rw [cg, cg]; rfl
theorem canonT_id {l : List Tx} (h : l.Pairwise (· < ·)) : canonT l = l := upT_eq (canonT_up l) h fun z => canonT_mem
structure ClS (S : List Tx) : Prop where
  len : ∀ w ∈ S, w.length ≤ 7000
  cl : ∀ (k : Nat) (a b : List Tx), k ≤ 11 → (∀ x ∈ a, Wr k x) → (∀ x ∈ b, Wr k x) → wr a b ∈ S → ∀ x ∈ a ++ b, x ∈ S
theorem jc_size2 : ∀ {ws : List Tx}, (∀ x ∈ ws, x ≠ []) → 2 * ws.length ≤ (jc ws).length + 1
  | [], _ => Nat.zero_le _
  | [x], h => by
    have := List.length_pos_iff.mpr (h x (by simp))
    show 2 ≤ x.length + 1
    omega
  | x :: y :: r, h => by
    have := jc_size2 (ws := y :: r) fun z hz => h z (List.mem_cons_of_mem _ hz)
    have := List.length_pos_iff.mpr (h x (by simp))
    rw [jc_cons, List.length_append]
    simp only [List.length_cons] at *
    omega
def LnB (gs : List Gm) : Prop := ∀ g, g < gs.length → (tx gs g).length ≤ 7000
structure OB (S : List Tx) (n0 : Nat) (gs : List Gm) : Prop where
  cov : ∀ g, n0 ≤ g → g < gs.length → tx gs g ∈ S
  sh : LnB gs
theorem OB.len {S : List Tx} {n0 : Nat} {gs : List Gm} (h : OB S n0 gs) (o : GOk gs) : gs.length ≤ n0 + S.length := by
  have nd : ((List.range' n0 (gs.length - n0)).map (tx gs)).Nodup := by
    unfold List.Nodup
    rw [List.pairwise_map]
    refine List.Pairwise.imp_of_mem (fun {a b} ha hb hne e => hne ?_) (List.nodup_range' (s := n0) (n := gs.length - n0))
    have ha := List.mem_range'_1.mp ha
    have hb := List.mem_range'_1.mp hb
    exact tx_inj o (by omega) (by omega) e
  have := nodup_le _ S nd fun x hx => by
    obtain ⟨g, hg, rfl⟩ := List.mem_map.mp hx
    have := List.mem_range'_1.mp hg
    exact h.cov g (by omega) (by omega)
  rw [List.length_map, List.length_range'] at this
  omega
theorem OB.add {S : List Tx} {n0 : Nat} {gs : List Gm} (h : OB S n0 gs) {l r : List Int} (og : GOk gs) (o : GOk (addG gs (canon l, canon r))) {w : Tx} (hw : w ∈ S) (wl : w.length ≤ 7000) (e : tx (addG gs (canon l, canon r)) (ixG (addG gs (canon l, canon r)) (canon l, canon r)) = w) : OB S n0 (addG gs (canon l, canon r)) := by
  by_cases m : (canon l, canon r) ∈ gs
  · have e1 : addG gs (canon l, canon r) = gs := if_pos m
    rw [e1]; exact h
  · have e1 : addG gs (canon l, canon r) = gs ++ [(canon l, canon r)] := if_neg m
    rw [e1] at e o ⊢
    have ei : ixG (gs ++ [(canon l, canon r)]) (canon l, canon r) = gs.length := by
      unfold ixG
      rw [List.idxOf_append, if_neg m, List.idxOf_cons_self, Nat.zero_add]
    rw [ei] at e
    refine ⟨fun g g0 hg => ?_, fun g hg => ?_⟩
    · by_cases c : g < gs.length
      · rw [tx_app og c]; exact h.cov g g0 c
      · rw [List.length_append] at hg
        have hg : g < gs.length + 1 := hg
        have : g = gs.length := by omega
        rw [this, e]; exact hw
    · by_cases c : g < gs.length
      · rw [tx_app og c]; exact h.sh g c
      · rw [List.length_append] at hg
        have hg : g < gs.length + 1 := hg
        have : g = gs.length := by omega
        rw [this, e]; exact wl
theorem BookAt.cells {c : Cn} {H : Hp} {b : Addr} {M : Addr → Prop} {gs : List Gm} {ds : List Int} (B : BookAt c H b M gs ds) {x : Addr} (h : M x) : (∀ l, H x ≠ some (.tup l)) ∧ ∀ C d l, H x ≠ some (.ins C d l) := by
  obtain ⟨dx, mv, nm, dp, ts, xs, h1, h2, h3, h4, h5, h6, h7, m1, m2, m3, ne, h8⟩ := B.ex
  have h4' := h4.here
  unfold NdO at h4'
  rcases h8 x h with rfl | rfl | rfl
  · exact ⟨(fun l z => by rw [h2] at z; cases z), (fun _ _ l z => by rw [h2] at z; cases z)⟩
  · exact ⟨(fun l z => by rw [h4'] at z; cases z), (fun _ _ l z => by rw [h4'] at z; cases z)⟩
  · exact ⟨(fun l z => by rw [h7] at z; cases z), (fun _ _ l z => by rw [h7] at z; cases z)⟩
theorem BookAt.tups {c : Cn} {H H' : Hp} {b : Addr} {M : Addr → Prop} {gs : List Gm} {ds : List Int} (B : BookAt c H b M gs ds) (k : Keep M H H') : ∀ p ys, H p = some (.tup ys) → H' p = some (.tup ys) := fun p ys h => k p _ (fun z => (B.cells z).1 _ h) h

def sp_put_tree (n : Nat) (c : Cn) : Sp := fun vs H Q E => vs.length = 2 ∧ ∃ (b : Addr) (M : Addr → Prop) (gs : List Gm) (ds : List Int) (v : V) (k : Nat) (w : Tx) (S : List Tx) (n0 : Nat), vs = [.ref b, v] ∧ TrAt H k v w ∧ k < n ∧ k ≤ 12 ∧ BookAt c H b M gs ds ∧ OB S n0 gs ∧ ClS S ∧ w ∈ S ∧ n0 + S.length ≤ 89000 ∧
  ∀ (H' : Hp) (F : List Gm) (ds' : List Int) (g : Nat), Keep M H H' → BookAt c H' b M (gs ++ F) ds' → OB S n0 (gs ++ F) → g < (gs ++ F).length → tx (gs ++ F) g = w → Q (.int g) H'
theorem z_put_tree {c : Cn} {vs : List V} {H : Hp} {Q : VK} {E : XK} (h : sp_put_tree 0 c vs H Q E) : False := by
  obtain ⟨_, b, M, gs, ds, v, k, w, S, n0, _, _, lt, _⟩ := h
  omega
abbrev N_put_tree : List Str := ["book", "tree", "lefts", "move"]
theorem sc_put_tree : FnScope N_put_tree ["book", "tree"] (defScope s_put_tree) := ⟨rfl, rfl, rfl, by decide +kernel, rfl, by decide +kernel, by decide +kernel⟩
def t_put_tree (n : Nat) (c : Cn) : TS :=
  (tSeq (tIfS (tTest (tOp (cEq c.K) (tVar 1) (tTup (tCons (tTup tNil) (tCons (tTup tNil) tNil)))))
  (tRet (tC (.int 0)))
  tNext)
  (tSeq (tAsg (tLc (iAny c.K (tOp (bIx c.P c.w c.K) (tVar 1) (tC (.int 0)))) (gName 3) tYes (tCall (sp_put_tree n c) [] E0 (tCons (tVar 0) (tCons (tVar 3) tNil))) [3]) (gName 2))
  (tRet (tMeth c.cBook "game" (sp_Book_game c) [] E0 (tVar 0) (tCons (tVar 2) (tCons (tLc (iAny c.K (tOp (bIx c.P c.w c.K) (tVar 1) (tC (.int 1)))) (gName 3) tYes (tCall (sp_put_tree n c) [] E0 (tCons (tVar 0) (tCons (tVar 3) tNil))) [3]) tNil))))))
theorem put_lc {n : Nat} {c : Cn} {mg : Str → Option Value} (T : Txt c mg) {b q p : Addr} {M : Addr → Prop} {gs : List Gm} {ds : List Int} {k n0 : Nat} {S : List Tx} {xs : List V} {ls : List Tx} {x2 x3 : Option V} {H : Hp} {Q : VK}
    (eq : H q = some (.tup xs)) (t : TrL H k xs ls) (kn : k < n) (k12 : k ≤ 12) (B : BookAt c H b M gs ds) (ob : OB S n0 gs) (cs : ClS S) (lS : ∀ x ∈ ls, x ∈ S) (few : ls.length ≤ 3600) (nS : n0 + S.length ≤ 89000)
    (kQ : ∀ (H' : Hp) (r : Addr) (F : List Gm) (ds' ns : List Int), Keep M H H' → BookAt c H' b M (gs ++ F) ds' → OB S n0 (gs ++ F) → H r = none → H' r = some (.lst (ns.map V.int)) → ns.length = ls.length → (∀ z ∈ ns, 0 ≤ z ∧ z < (gs ++ F).length) → (ns.map fun z => tx (gs ++ F) z.toNat) = ls → Q (.ref r) H') :
    kLc (Itt c.K q) (gName 3) tYes (tCall (sp_put_tree n c) [] E0 (tCons (tVar 0) (tCons (tVar 3) tNil))) [3] [some (.ref b), some (.ref p), x2, x3] H Q := by
  intro D hD
  have nD := B.new hD
  have xl := t.1
  refine lc_tup (xs := xs) (fun j H' => ∃ (F : List Gm) (ds' ns : List Int), H' D = some (.lst (ns.map V.int)) ∧ BookAt c H' b M (gs ++ F) ds' ∧ OB S n0 (gs ++ F) ∧ ns.length = j ∧ (∀ z ∈ ns, 0 ≤ z ∧ z < (gs ++ F).length) ∧ (ns.map fun z => tx (gs ++ F) z.toNat) = ls.take j ∧ TrL H' k xs ls ∧ H' q = some (.tup xs) ∧ Keep M H H') ⟨[], ds, [], upd_same, by rw [List.append_nil]; exact B.same (Keep.alloc hD), by rw [List.append_nil]; exact ob, rfl, (fun z h => nomatch h), rfl, t.keep (Keep.alloc hD), get_new hD eq, (Keep.alloc hD)⟩ ?_ ?_ ?_
  · rintro j H' _ ⟨F, ds', ns, _, _, _, _, _, _, _, e, _⟩
    exact SqT.of e
  · rintro j x H1 hx ⟨F, ds', ns, eD, B1, ob1, nl, nr, nt, t1, eq1, k1⟩
    have hj := (List.getElem?_eq_some_iff.mp hx).1
    obtain ⟨l, hl⟩ : ∃ l, ls[j]? = some l := ⟨_, List.getElem?_eq_getElem (by omega)⟩
    have tv := t1.2 j x l hx hl
    repeat kaf_suf
    refine ⟨rfl, ?_⟩
    repeat kaf_suf
    refine ⟨rfl, b, M, gs ++ F, ds', x, k, l, S, n0, rfl, tv, kn, k12, B1, ob1, cs, lS l (List.mem_of_getElem? hl), nS, fun H2 G ds2 g k2 B2 ob2 hg eg => ?_⟩
    rw [List.append_assoc] at B2 ob2 hg eg
    have eD2 := k2.get nD eD
    refine ⟨_, eD2, few1 (by rw [List.length_map]; omega), F ++ G, ds2, ns ++ [(g : Int)], by rw [List.map_append]; exact upd_same, ?_, ob2, by rw [List.length_append, nl]; rfl, fun z hz => ?_, ?_, ?_, ?_, ?_⟩
    · exact B2.keep (N := fun x => x = D) (Keep.refl.set rfl) (fun x h => by rw [h]; exact ⟨_, eD2⟩) fun x h z => nD (z ▸ h)
    · rcases List.mem_append.mp hz with hz | hz
      · have := nr z hz
        rw [← List.append_assoc, List.length_append]; omega
      · rw [List.mem_singleton] at hz
        subst hz
        omega
    · rw [List.map_append, List.take_succ, hl, ← nt]
      congr 1
      · refine List.map_congr_left fun z hz => ?_
        have := nr z hz
        rw [← List.append_assoc, tx_app B1.ok (by omega)]
      · show [tx (gs ++ (F ++ G)) ((g : Int)).toNat] = _
        rw [Int.toNat_natCast, eg]; rfl
    · exact (t1.keeps (B1.tups k2)).keeps fun p ys h => get_set (fun z => by rw [z, eD2] at h; cases h) h
    · exact get_set (fun z => by rw [z, eD] at eq1; cases eq1) (B1.tups k2 _ _ eq1)
    · exact (k1.trans k2).setN hD
  · rintro H1 ⟨F, ds', ns, eD, B1, ob1, nl, nr, nt, t1, eq1, k1⟩
    rw [xl, List.take_length] at nt
    exact kQ H1 D F ds' ns k1 B1 ob1 hD eD (by omega) nr nt
theorem p_put_tree {n : Nat} {c : Cn} {mg : Str → Option Value} (T : Txt c mg) {vs : List V} {H : Hp} {Q : VK} {E : XK} (h : sp_put_tree (n + 1) c vs H Q E) : t_put_tree n c { nx := fun _ H' => Q .non H', rt := Q } (start N_put_tree vs) H := by
  obtain ⟨_, b, M, gs, ds, v, k, w, S, n0, rfl, tr, kn, k12, B, ob, cs, wS, nS, kQ⟩ := h
  unfold t_put_tree
  repeat kaf_suf
  intro z1 hz1
  repeat kaf_suf
  intro z2 hz2
  repeat kaf_suf
  intro z3 hz3
  have kz := ((Keep.alloc (M := Nil) (o := .tup []) hz1).new (o := .tup []) hz2).new (o := .tup [.ref z1, .ref z2]) hz3
  have w1 : (upd (upd (upd H z1 (.tup [])) z2 (.tup [])) z3 (.tup [.ref z1, .ref z2])) z1 = some (.tup []) := by kaf_pre
  have w2 : (upd (upd (upd H z1 (.tup [])) z2 (.tup [])) z3 (.tup [.ref z1, .ref z2])) z2 = some (.tup []) := by kaf_pre
  have w3 : (upd (upd (upd H z1 (.tup [])) z2 (.tup [])) z3 (.tup [.ref z1, .ref z2])) z3 = some (.tup [.ref z1, .ref z2]) := upd_same
  have tr0 := tr.keep kz
  have B0 := B.same kz
  generalize upd (upd (upd H z1 (.tup [])) z2 (.tup [])) z3 (.tup [.ref z1, .ref z2]) = H0 at kz w1 w2 w3 tr0 B0 ⊢
  clear hz1 hz2 hz3 B tr
  obtain ⟨d, ⟨d1, d2, d3⟩, de⟩ := tr0.data (K := c.K)
  refine v_eqD d1 (.tup (SqT.of w3) (.cons (.tup (SqT.of w1) .nil) (.cons (.tup (SqT.of w2) .nil) .nil))) (shaped_of d2 (by omega)) (shaped_of (d := dZ) (by simp [dZ, PyData.canLay0, PyData.canLayAll0]) (by simp [dZ, PyData.depth, PyData.depthAll])) ?_
  rw [show PyData.eqv d (.tuple [.tuple [], .tuple []]) = decide (w = [48]) from de]
  clear d1 w1 w2 w3
  refine r_kB (r_ite (fun z => ?_) (fun z => ?_))
  · subst z
    repeat kaf_suf
    exact kQ H0 [] ds 0 kz.weak (by rw [List.append_nil]; exact B0) (by rw [List.append_nil]; exact ob) (by rw [List.append_nil]; exact B0.pos) rfl
  repeat kaf_suf
  cases tr0 with
  | z _ _ _ => exact absurd rfl z
  | @nd k p a a' xs ys ls rs h1 h2 h3 l1 l2 e1 e2 s1 s2 ne =>
  have t1 : TrL H0 k xs ls := ⟨l1, e1⟩
  have t2 : TrL H0 k ys rs := ⟨l2, e2⟩
  have c3 := cs.cl k ls rs (by omega) t1.wr t2.wr wS
  have wl := cs.len _ wS
  have c1 : ls.length ≤ 3600 := by
    have := jc_size2 (ws := ls) fun x hx => by obtain ⟨c, t, h, _⟩ := (t1.wr x hx).head; rw [h]; exact List.cons_ne_nil _ _
    unfold wr at wl
    simp only [List.length_cons, List.length_append, List.length_nil] at wl
    omega
  have c2 : rs.length ≤ 3600 := by
    have := jc_size2 (ws := rs) fun x hx => by obtain ⟨c, t, h, _⟩ := (t2.wr x hx).head; rw [h]; exact List.cons_ne_nil _ _
    unfold wr at wl
    simp only [List.length_cons, List.length_append, List.length_nil] at wl
    omega
  repeat kaf_suf
  have nP : ∀ {H' : Hp} {gs : List Gm} {ds : List Int}, BookAt c H' b M gs ds → True := fun _ => trivial
  refine put_lc T h2 t1 (by omega) (by omega) B0 ob cs (fun x hx => c3 x (List.mem_append_left _ hx)) c1 nS fun H1 r1 F1 ds1 ns k1 B1 ob1 hr1 er1 nl nr nt => ?_
  have t21 := t2.keeps (B0.tups k1)
  have h31 := B0.tups k1 _ _ h3
  have h11 := B0.tups k1 _ _ h1
  have nr1 := B0.new hr1
  obtain ⟨bx, bm, bn, bd, hb⟩ := B1.ins_
  repeat kaf_suf
  refine put_lc T h31 t21 (by omega) (by omega) B1 ob1 cs (fun x hx => c3 x (List.mem_append_right _ hx)) c2 nS fun H2 r2 F2 ds2 ms k2 B2 ob2 hr2 er2 ml mr mt => ?_
  have nr2 := B1.new hr2
  have er12 := k2.get nr1 er1
  rw [List.append_assoc] at B2 ob2 mr mt
  have gl := ob2.len B2.ok
  have nr' : ∀ z ∈ ns, 0 ≤ z ∧ z < ((gs ++ (F1 ++ F2)).length : Int) := fun z hz => by
    have := nr z hz
    rw [← List.append_assoc, List.length_append]; omega
  have nt' : (ns.map fun z => tx (gs ++ (F1 ++ F2)) z.toNat) = ls := by
    rw [← nt]
    refine List.map_congr_left fun z hz => ?_
    have := nr z hz
    rw [← List.append_assoc, tx_app B1.ok (by omega)]
  obtain ⟨ge, hge⟩ : ∃ ge, ge = gs ++ (F1 ++ F2) := ⟨_, rfl⟩
  rw [← hge] at B2 ob2 mr mt gl nr' nt'
  repeat kaf_suf
  refine ⟨rfl, b, r1, r2, M, ge, ds2, ns, ms, rfl, B2, er12, er2, nr1, nr2, by omega, by omega, by omega, fun m hm => (List.mem_append.mp hm).elim (nr' m) (mr m), fun H3 e k3 B3 => ?_⟩
  obtain ⟨f, ef, _, _⟩ := addG_grow (gs := ge) (k := (canon ns, canon ms))
  have ix := ixG_get (addG_mem ge (canon ns, canon ms))
  have ixl := (List.getElem?_eq_some_iff.mp ix).1
  have grow : ∀ l : List Int, (∀ z ∈ l, 0 ≤ z ∧ z < (ge.length : Int)) → (l.map fun z => tx (addG ge (canon ns, canon ms)) z.toNat) = l.map fun z => tx ge z.toNat := fun l hl => List.map_congr_left fun z hz => by
    have := hl z hz
    rw [ef, tx_app B2.ok (by omega)]
  have etx : tx (addG ge (canon ns, canon ms)) (ixG (addG ge (canon ns, canon ms)) (canon ns, canon ms)) = wr ls rs := by
    rw [tx_new B3.ok ix (fun z => ne (List.length_eq_zero_iff.mp (by
      have z := congrArg List.length z
      rw [List.length_append] at z ⊢
      rw [← nl, ← ml]; exact z))), grow ns nr', grow ms mr, nt', mt, canonT_id s1, canonT_id s2]
  have ob3 := ob2.add B2.ok B3.ok wS (cs.len _ wS) etx
  rw [ef] at B3 ob3 etx ixl ⊢
  rw [hge, List.append_assoc] at B3 ob3 etx ixl ⊢
  exact kQ H3 (F1 ++ F2 ++ f) (ds2 ++ e) _ (kz.weak.trans (k1.trans (k2.trans k3))) B3 ob3 ixl etx
theorem cal_put_tree {c : Cn} {mg : Str → Option Value} {base : Heap} (T : Txt c mg) : ∀ n : Nat, Cal c.P c.w c.K mg base CX0 (4 + n) "put_tree" (sp_put_tree n c)
  | 0 => by
    obtain ⟨f, fd, F, g, b⟩ := T.F_put_tree
    exact ⟨f, fd, ["book", "tree"], F.ok (k := 3) (N := N_put_tree) sc_put_tree (fun vs H Q E h => (z_put_tree h).elim) (fun cdv A outer s H vs Q E hr h => (z_put_tree h).elim), g, F.kp, b⟩
  | n + 1 => by
    obtain ⟨f, fd, F, g, b⟩ := T.F_put_tree
    exact ⟨f, fd, ["book", "tree"], F.ok (k := 4 + n) (N := N_put_tree) sc_put_tree (fun vs H Q E h => h.1) (fun cdv A outer s H vs Q E hr h => ⟨t_put_tree n c, by
  exact (pss_cons (ps_if (pt_cmpR (o_eq (hu64 hr)) (pv 1) (pe_tup (pa_cons (pe_tup pa_nil) (pa_cons (pe_tup pa_nil) pa_nil))) (nomark _)) (pss_one (ps_ret pe_int)) pss_nil)
  (pss_cons (ps_setLc (i := 2) (own := [("move", 3)]) rfl sc_put_tree.nd rfl rfl (sw_true rfl rfl rfl (by decide +kernel)) (pi_any (pe_ix (x_ix (hu64 hr)) (pv 1) pe_int (fun _ _ => rfl))) (blkOk_by (own := [("move", 3)]) (N := N_put_tree) (sc := defScope s_put_tree) (by decide +kernel)) (fun _ _ _ _ _ => (pg_name (i := 3) sc_put_tree.nd rfl (Or.inl rfl))) (fun _ _ _ _ _ => pts_nil) (fun _ _ _ _ _ => (e_call (cal_put_tree T n) hr (by omega) pass0 rfl (pa_cons (pv 0) (pa_cons (pv 3) pa_nil)))))
  (pss_one (ps_ret (e_meth (met_Book_game T) hr (by omega) passL (pv 0) (pa_cons (pv 2) (pa_cons (pe_lc (own := [("move", 3)]) rfl sc_put_tree.nd (pi_any (pe_ix (x_ix (hu64 hr)) (pv 1) pe_int (fun _ _ => rfl))) (blkOk_by (own := [("move", 3)]) (N := N_put_tree) (sc := defScope s_put_tree) (by decide +kernel)) (fun _ _ _ _ _ => (pg_name (i := 3) sc_put_tree.nd rfl (Or.inl rfl))) (fun _ _ _ _ _ => pts_nil) (fun _ _ _ _ _ => (e_call (cal_put_tree T n) hr (by omega) pass0 rfl (pa_cons (pv 0) (pa_cons (pv 3) pa_nil))))) pa_nil))))))), p_put_tree T h⟩), g, F.kp, b⟩
abbrev N_read : List Str := ["book", "text", "found"]
theorem sc_read : FnScope N_read ["book", "text"] (defScope s_read) := ⟨rfl, rfl, rfl, by decide +kernel, rfl, by decide +kernel, by decide +kernel⟩
def t_read (c : Cn) (E : XK) : TS :=
  (tSeq (tIfS (tNot (tTru c.K (tCB (rIsi c.K) (tCons (tVar 1) (tCons (tC (.ty "str")) tNil)))))
  (tRaiseC c.cNoText (fun cls d _ H => E cls d H))
  tNext)
  (tSeq (tAsg (tCall (sp_game_read 13 c) [] E0 (tCons (tVar 1) (tCons (tC (.int 0)) (tCons (tC (.int 12)) tNil)))) (gName 2))
  (tSeq (tIfS (tOr (tTest (tOp cIs (tVar 2) (tC .non))) (tTest (tOp (cNe c.K) (tOp (bIx c.P c.w c.K) (tVar 2) (tC (.int 1))) (tCB (kLen c.K) (tCons (tVar 1) tNil)))))
  (tRaiseC c.cNoText (fun cls d _ H => E cls d H))
  tNext)
  (tRet (tCall (sp_put_tree 14 c) [] E0 (tCons (tVar 0) (tCons (tOp (bIx c.P c.w c.K) (tVar 2) (tC (.int 0))) tNil)))))))
def sp_read (c : Cn) : Sp := fun vs H Q E => vs.length = 2 ∧ ∃ (b : Addr) (M : Addr → Prop) (gs : List Gm) (ds : List Int) (w : Tx) (S : List Tx) (n0 : Nat), vs = [.ref b, .str (tS w)] ∧ Wr 12 w ∧ BookAt c H b M gs ds ∧ OB S n0 gs ∧ ClS S ∧ w ∈ S ∧ n0 + S.length ≤ 89000 ∧
  ∀ (H' : Hp) (F : List Gm) (ds' : List Int) (g : Nat), Keep M H H' → BookAt c H' b M (gs ++ F) ds' → OB S n0 (gs ++ F) → g < (gs ++ F).length → tx (gs ++ F) g = w → Q (.int g) H'
theorem p_read {c : Cn} {mg : Str → Option Value} (T : Txt c mg) {vs : List V} {H : Hp} {Q : VK} {E : XK} (h : sp_read c vs H Q E) : t_read c E { nx := fun _ H' => Q .non H', rt := Q } (start N_read vs) H := by
  obtain ⟨_, b, M, gs, ds, w, S, n0, rfl, hw, B, ob, cs, wS, nS, kQ⟩ := h
  have wl := cs.len w wS
  have pf : pG 12 (w.drop 0) = some (w, []) := by
    have := pG_full hw []
    rw [List.append_nil] at this
    exact this
  unfold t_read
  repeat kaf_suf
  refine ⟨rfl, w, 0, 12, rfl, by decide, by decide, Nat.zero_le _, by omega, (fun no => by rw [pf] at no; cases no), fun w' r so H1 p v k1 ep tv => ?_⟩
  rw [pf] at so
  injection so with so
  injection so with h1 h2
  subst h1 h2
  repeat kaf_suf
  refine r_ite (fun z => by cases z) (fun _ => ?_)
  repeat kaf_suf
  refine v_lenStr (by rw [tS_len]; omega) ?_
  rw [tS_len, show w.length - ([] : Tx).length = w.length from rfl]
  repeat kaf_suf
  refine ⟨rfl, b, M, gs, ds, v, 12, w, S, n0, rfl, tv, by decide, by decide, B.same k1, ob, cs, wS, nS, fun H2 F ds' g k2 B2 ob2 hg eg => ?_⟩
  exact kQ H2 F ds' g (k1.weak.trans k2) B2 ob2 hg eg
inductive NoS (H : Hp) : V → Prop
  | int (i : Int) : NoS H (.int i)
  | bl (b : Bool) : NoS H (.bl b)
  | non : NoS H .non
  | lst {a : Addr} {xs : List V} : H a = some (.lst xs) → NoS H (.ref a)
  | tup {a : Addr} {xs : List V} : H a = some (.tup xs) → NoS H (.ref a)
  | dic {a : Addr} {kvs : List (L2.Key × V)} : H a = some (.dK kvs) → NoS H (.ref a)
def sy_read (c : Cn) : Sp := fun vs H Q E => vs.length = 2 ∧ ∃ (b : Addr) (v : V), vs = [.ref b, v] ∧ (NoS H v ∨ ∃ L : Tx, v = .str (tS L) ∧ L.length ≤ 20000 ∧ ∀ w, pG 12 L ≠ some (w, [])) ∧ ∀ H', Keep Nil H H' → E (.ref c.cNoText) none H'
theorem q_read {c : Cn} {mg : Str → Option Value} (T : Txt c mg) {vs : List V} {H : Hp} {Q : VK} {E : XK} (h : sy_read c vs H Q E) : t_read c E { nx := fun _ H' => Q .non H', rt := Q } (start N_read vs) H := by
  obtain ⟨_, b, v, rfl, h, k⟩ := h
  unfold t_read
  rcases h with h | ⟨L, rfl, lL, no⟩
  · cases h with
    | int i => (repeat kaf_suf); exact k _ Keep.refl
    | bl i => (repeat kaf_suf); exact k _ Keep.refl
    | non =>
      repeat kaf_suf
      refine v_isiN kit_NoneType_str ?_
      repeat kaf_suf
      exact k _ Keep.refl
    | lst h => (repeat kaf_suf); exact k _ Keep.refl
    | tup h => (repeat kaf_suf); exact k _ Keep.refl
    | dic h =>
      repeat kaf_suf
      refine v_isi (.ty "str") (.base (.dK h)) (kit_ty (show kitB "dict" "str" = some false by decide +kernel)) ?_
      repeat kaf_suf
      exact k _ Keep.refl
  repeat kaf_suf
  refine ⟨rfl, L, 0, 12, rfl, by decide, by decide, Nat.zero_le _, lL, (fun _ H1 k1 => ?_), fun w r so H1 p v k1 ep tv => ?_⟩
  · repeat kaf_suf
    exact k _ k1
  rw [List.drop_zero] at so
  have rn : r ≠ [] := fun z => no w (by rw [so, z])
  have dl := (drop_le (L := L) (a := 0) (w := w) (r := r) (by rw [List.drop_zero]; exact (pG_sound so).1) (Nat.zero_le _)).1
  have rp := List.length_pos_iff.mpr rn
  repeat kaf_suf
  refine r_ite (fun z => by cases z) (fun _ => ?_)
  repeat kaf_suf
  refine v_lenStr (by rw [tS_len]; omega) ?_
  rw [tS_len]
  repeat kaf_suf
  exact k _ k1
def sx_read (c : Cn) : Sp := fun vs H Q E => vs.length = 2 ∧ (sp_read c vs H Q E ∨ sy_read c vs H Q E)
theorem calx_read {c : Cn} {mg : Str → Option Value} {base : Heap} (T : Txt c mg) : Cal c.P c.w c.K mg base (L2.CX c.P c.w) 35 "read" (sx_read c) := by
  obtain ⟨f, fd, F, g, b⟩ := T.F_read
  exact ⟨f, fd, ["book", "text"], F.okX (k := 34) (N := N_read) sc_read (fun vs H Q E h => h.1) (fun cdv A outer s H vs Q E hr h => ⟨t_read c E, by
  exact (pss_cons (ps_if (pt_not (p_tru (pe_callB k_isi (by rfl) T.n_isinstance (by decide +kernel) (pa_cons (pv 1) (pa_cons (pe_bltn rfl T.n_str (by decide +kernel) rfl) pa_nil))))) (pss_one (ps_raiseC rfl (takes_of rfl rfl rfl rfl) T.x_NoText rfl)) pss_nil)
  (pss_cons (ps_set (i := 2) sc_read.nd rfl (Or.inl rfl) (e_call (cal_game_read T 13) hr (by decide) pass0 rfl (pa_cons (pv 1) (pa_cons pe_int (pa_cons (C8.pe_gc rfl (gint T.g_DEEPEST)) pa_nil)))))
  (pss_cons (ps_if (PW.pt (pw_or (pt_cmpR o_is (pv 2) pe_non (nomark _)) (pw_or1 (pt_cmpR (o_ne (hu64 hr)) (pe_ix (x_ix (hu64 hr)) (pv 2) pe_int (fun _ _ => rfl)) (pe_callB k_len (by rfl) T.n_len (by decide +kernel) (pa_cons (pv 1) pa_nil)) (nomark _))))) (pss_one (ps_raiseC rfl (takes_of rfl rfl rfl rfl) T.x_NoText rfl)) pss_nil)
  (pss_one (ps_ret (e_call (cal_put_tree T 14) hr (by decide) pass0 rfl (pa_cons (pv 0) (pa_cons (pe_ix (x_ix (hu64 hr)) (pv 2) pe_int (fun _ _ => rfl)) pa_nil)))))))), h.2.elim (p_read T) (q_read T)⟩), g, F.kp, b⟩
theorem cal_read {c : Cn} {mg : Str → Option Value} {base : Heap} (T : Txt c mg) : Cal c.P c.w c.K mg base (L2.CX c.P c.w) 35 "read" (sp_read c) := by
  obtain ⟨f, fd, ps, F, g, kp, b⟩ := (calx_read T).ex
  exact ⟨⟨f, fd, ps, F.imp fun vs H Q E h => ⟨h.1, .inl h⟩, g, kp, b⟩⟩

/-! the parts of a text that are writings -/
theorem jc_mem {x : Tx} : ∀ {a : List Tx}, x ∈ a → ∃ p q, jc a = p ++ (x ++ q)
  | [y], h => by
    rw [List.mem_singleton] at h
    subst h
    exact ⟨[], [], by show x = _; simp⟩
  | y :: z :: r, h => by
    rw [jc_cons]
    rcases List.mem_cons.mp h with rfl | h
    · exact ⟨[], 44 :: jc (z :: r), rfl⟩
    · obtain ⟨p, q, e⟩ := jc_mem h
      exact ⟨y ++ 44 :: p, q, by rw [e]; simp⟩
def subs (L : Tx) : List Tx := (List.range L.length).filterMap fun i => (pG 12 (L.drop i)).map (·.1)
theorem subs_mem {L x : Tx} : x ∈ subs L ↔ ∃ i r, i < L.length ∧ pG 12 (L.drop i) = some (x, r) := by
  unfold subs
  rw [List.mem_filterMap]
  constructor
  · rintro ⟨i, hi, h⟩
    obtain ⟨⟨w, r⟩, h1, h2⟩ := Option.map_eq_some_iff.mp h
    exact ⟨i, r, List.mem_range.mp hi, by rw [h1]; simp only at h2; rw [h2]⟩
  · rintro ⟨i, r, hi, h⟩
    exact ⟨i, List.mem_range.mpr hi, by rw [h]; rfl⟩
theorem subs_len (L : Tx) : (subs L).length ≤ L.length := by
  have := List.length_filterMap_le (fun i => (pG 12 (L.drop i)).map (·.1)) (List.range L.length)
  rw [List.length_range] at this
  exact this
theorem subs_self {L : Tx} (h : Wr 12 L) : L ∈ subs L := by
  obtain ⟨c, t, e, _⟩ := h.head
  have := pG_full h []
  rw [List.append_nil] at this
  exact subs_mem.mpr ⟨0, [], by rw [e]; simp, this⟩
theorem subs_part {L x q : Tx} {i : Nat} (h : L.drop i = x ++ q) (w : Wr 12 x) : x ∈ subs L := by
  obtain ⟨c, t, e, _⟩ := w.head
  refine subs_mem.mpr ⟨i, q, ?_, by rw [h]; exact pG_full w q⟩
  have := congrArg List.length h
  rw [List.length_drop, e] at this
  simp at this
  omega
theorem clS_subs {L : Tx} (lL : L.length ≤ 7000) : ClS (subs L) := by
  refine ⟨fun w hw => ?_, fun k a b hk ha hb hw => ?_⟩
  · obtain ⟨i, r, hi, h⟩ := subs_mem.mp hw
    have := congrArg List.length (pG_sound h).1
    rw [List.length_drop, List.length_append] at this
    omega
  · obtain ⟨i, r, hi, h⟩ := subs_mem.mp hw
    have e := (pG_sound h).1
    intro x hx
    have cut : ∀ (p x q : Tx), wr a b = p ++ (x ++ q) → L.drop (i + p.length) = x ++ (q ++ r) := fun p x q h => by
      rw [← List.drop_drop, e, h, List.append_assoc, List.drop_left, List.append_assoc]
    rcases List.mem_append.mp hx with hx | hx
    · obtain ⟨p, q, hp⟩ := jc_mem hx
      exact subs_part (cut (123 :: p) x (q ++ 124 :: (jc b ++ [125])) (by unfold wr; rw [hp]; simp)) ((ha x hx).up (by omega))
    · obtain ⟨p, q, hp⟩ := jc_mem hx
      exact subs_part (cut (123 :: (jc a ++ 124 :: p)) x (q ++ [125]) (by unfold wr; rw [hp]; simp)) ((hb x hx).up (by omega))
/-- any game's text is a writing -/
theorem tx_wr {gs : List Gm} (o : GOk gs) : ∀ (n g : Nat), g < n → g < gs.length → Wr g (tx gs g)
  | 0, _, h => by omega
  | n + 1, g, hn => fun hg => by
    by_cases g0 : g = 0
    · subst g0; exact .z
    · obtain ⟨m, rfl⟩ : ∃ m, g = m + 1 := ⟨g - 1, by omega⟩
      rw [tx_eq o hg g0]
      have e : ∀ s, ∀ x ∈ canonT ((mvs gs (m + 1) s).map fun z => tx gs z.toNat), Wr m x := fun s x hx => by
        obtain ⟨z, hz, rfl⟩ := List.mem_map.mp (canonT_mem.mp hx)
        have := mvs_lo o hg hz
        exact (tx_wr o n z.toNat (by omega) (by omega)).up (by omega)
      refine .nd (e true) (e false) (canonT_up _) (canonT_up _) fun q => ?_
      have q := List.append_eq_nil_iff.mp q
      have em : ∀ s, mvs gs (m + 1) s = [] := fun s => by
        refine List.eq_nil_iff_forall_not_mem.mpr fun z hz => ?_
        have : tx gs z.toNat ∈ canonT ((mvs gs (m + 1) s).map fun z => tx gs z.toNat) := canonT_mem.mpr (List.mem_map.mpr ⟨z, hz, rfl⟩)
        cases s with
        | true => rw [q.1] at this; exact nomatch this
        | false => rw [q.2] at this; exact nomatch this
      have hgm := List.getElem?_eq_getElem hg
      have e1 := em true
      have e2 := em false
      unfold mvs at e1 e2
      rw [hgm] at e1 e2
      have : gs[m + 1]? = some ([], []) := by rw [hgm]; exact congrArg some (Prod.ext e1 e2)
      have l0 := (List.getElem?_eq_some_iff.mp o.zero).1
      have : m + 1 = 0 := (List.getElem_inj o.nd).mp ((List.getElem?_eq_some_iff.mp this).2.trans (List.getElem?_eq_some_iff.mp o.zero).2.symm)
      omega
theorem wr_mv {gs : List Gm} (o : GOk gs) {g k : Nat} (hg : g < gs.length) (g0 : g ≠ 0) (h : Wr k (tx gs g)) : ∃ k', k = k' + 1 ∧ ∀ s, ∀ z ∈ mvs gs g s, Wr k' (tx gs z.toNat) := by
  rw [tx_eq o hg g0] at h
  generalize hw : wr _ _ = w at h
  cases h with
  | z => unfold wr at hw; simp at hw
  | @nd k a b h1 h2 s1 s2 ne =>
    refine ⟨k, rfl, ?_⟩
    have e : ∀ s, ∀ x ∈ canonT ((mvs gs g s).map fun z => tx gs z.toNat), Wr (g + k) x := fun s x hx => by
      obtain ⟨z, hz, rfl⟩ := List.mem_map.mp (canonT_mem.mp hx)
      have := mvs_lo o hg hz
      exact (tx_wr o _ z.toNat (Nat.lt_succ_self _) (by omega)).up (by omega)
    obtain ⟨e1, e2⟩ := wr_inj (n := g + k) hw (e true) (e false) (fun x hx => (h1 x hx).up (by omega)) (fun x hx => (h2 x hx).up (by omega))
    intro s z hz
    have : tx gs z.toNat ∈ canonT ((mvs gs g s).map fun z => tx gs z.toNat) := canonT_mem.mpr (List.mem_map.mpr ⟨z, hz, rfl⟩)
    cases s with
    | true => rw [e1] at this; exact h1 _ this
    | false => rw [e2] at this; exact h2 _ this
theorem insT_sumE {x : Tx} : ∀ {l : List Tx}, x ∉ l → ((insT x l).map (·.length + 1)).sum = (l.map (·.length + 1)).sum + (x.length + 1)
  | [], _ => by simp [insT]
  | y :: r, h => by
    have ne : x ≠ y := fun e => h (e ▸ List.mem_cons_self)
    unfold insT
    rw [if_neg ne]
    split
    · simp only [List.map_cons, List.sum_cons]; omega
    · have := insT_sumE (x := x) (l := r) fun m => h (List.mem_cons_of_mem _ m)
      simp only [List.map_cons, List.sum_cons, this]; omega
theorem canonT_sumE : ∀ {l : List Tx}, l.Nodup → ((canonT l).map (·.length + 1)).sum = (l.map (·.length + 1)).sum
  | [], _ => rfl
  | x :: r, h => by
    obtain ⟨h1, h2⟩ := List.nodup_cons.mp h
    show ((insT x (canonT r)).map _).sum = _
    rw [insT_sumE fun m => h1 (canonT_mem.mp m), canonT_sumE h2]
    simp only [List.map_cons, List.sum_cons]; omega
theorem jc_lenE : ∀ {l : List Tx}, (l.map (·.length + 1)).sum ≤ (jc l).length + 1
  | [] => by simp
  | [x] => by show (List.map _ [x]).sum ≤ x.length + 1; simp
  | x :: y :: r => by
    have := jc_lenE (l := y :: r)
    rw [jc_cons, List.length_append, List.length_cons]
    simp only [List.map_cons, List.sum_cons] at this ⊢
    omega
theorem mv_sum {gs : List Gm} (o : GOk gs) {g : Nat} (hg : g < gs.length) (g0 : g ≠ 0) (s : Bool) : (((mvs gs g s).map fun z => tx gs z.toNat).map (·.length + 1)).sum ≤ (tx gs g).length := by
  have nd : ((mvs gs g s).map fun z => tx gs z.toNat).Nodup := by
    have up : (mvs gs g s).Pairwise (· < ·) := by
      unfold mvs
      rw [List.getElem?_eq_getElem hg]
      have := o.up _ (List.getElem_mem hg)
      cases s
      · exact this.2
      · exact this.1
    unfold List.Nodup
    rw [List.pairwise_map]
    refine List.Pairwise.imp_of_mem (fun {a b} ha hb lt e => ?_) up
    have h1 := mvs_lo o hg ha
    have h2 := mvs_lo o hg hb
    have := tx_inj o (by omega) (by omega) e
    omega
  rw [← canonT_sumE nd]
  have := jc_lenE (l := canonT ((mvs gs g s).map fun z => tx gs z.toNat))
  have e := congrArg List.length (tx_eq o hg g0)
  unfold wr at e
  simp only [List.length_cons, List.length_append, List.length_nil] at e
  cases s <;> omega

/-! the law's own reading -/
def sp_law_end (n : Nat) (c : Cn) : Sp := fun vs H Q E => vs.length = 3 ∧ ∃ (L : Tx) (at_ room : Nat), vs = [.str (tS L), .int at_, .int room] ∧ room < n ∧ at_ ≤ L.length ∧ L.length ≤ 20000 ∧
  (pG room (L.drop at_) = none → Q (.int (-1)) H) ∧ ∀ w r, pG room (L.drop at_) = some (w, r) → Q (.int ((L.length - r.length : Nat) : Int)) H
theorem z_law_end {c : Cn} {vs : List V} {H : Hp} {Q : VK} {E : XK} (h : sp_law_end 0 c vs H Q E) : False := by
  obtain ⟨_, L, at_, room, _, lt, _⟩ := h
  omega
abbrev N_law_end : List Str := ["text", "at", "room", "moves", "end", "last", "to"]
theorem sc_law_end : FnScope N_law_end ["text", "at", "room"] (defScope s_law_end) := ⟨rfl, rfl, rfl, by decide +kernel, rfl, by decide +kernel, by decide +kernel⟩
def t_law_end (n : Nat) (c : Cn) : TS :=
  (tSeq (tIfS (tTest (tOp (cEq c.K) (tSl rSlS (tVar 0) (tPart (tVar 1)) (tPart (tOp (bAdd c.K) (tVar 1) (tC (.int 1))))) (tC (.str "0"))))
  (tRet (tOp (bAdd c.K) (tVar 1) (tC (.int 1))))
  tNext)
  (tSeq (tIfS (tOr (tTest (tOp (cNe c.K) (tSl rSlS (tVar 0) (tPart (tVar 1)) (tPart (tOp (bAdd c.K) (tVar 1) (tC (.int 1))))) (tC (.str "{")))) (tTest (tOp (cEq c.K) (tVar 2) (tC (.int 0)))))
  (tRet (tUn (rU fun i => .int (-i)) (tC (.int 1))))
  tNext)
  (tSeq (tAsg (tOp (bAdd c.K) (tVar 1) (tC (.int 1))) (gName 1))
  (tSeq (tAsg (tC (.int 0)) (gName 3))
  (tSeq (tFor (iStr (tC (.str "|}"))) (gName 4)
  (tSeq (tAsg (tC (.str "")) (gName 5))
  (tSeq (tWhile (tAnd (tTest (tOp cGe (tVar 1) (tC (.int 0)))) (tTest (tOp (cNe c.K) (tSl rSlS (tVar 0) (tPart (tVar 1)) (tPart (tOp (bAdd c.K) (tVar 1) (tC (.int 1))))) (tVar 4))))
  (C8.tCut (tIfS (tTest (tOp (cNe c.K) (tVar 5) (tC (.str ""))))
  (tSeq (tIfS (tTest (tOp (cNe c.K) (tSl rSlS (tVar 0) (tPart (tVar 1)) (tPart (tOp (bAdd c.K) (tVar 1) (tC (.int 1))))) (tC (.str ","))))
  (tRet (tUn (rU fun i => .int (-i)) (tC (.int 1))))
  tNext)
  (tAsg (tOp (bAdd c.K) (tVar 1) (tC (.int 1))) (gName 1)))
  tNext)
  (tSeq (tAsg (tCall (sp_law_end n c) [] E0 (tCons (tVar 0) (tCons (tVar 1) (tCons (tOp bSub (tVar 2) (tC (.int 1))) tNil)))) (gName 6))
  (tSeq (tIfS (tOr (tTest (tOp (cLt c.K) (tVar 6) (tC (.int 0)))) (tAnd (tTest (tOp (cNe c.K) (tVar 5) (tC (.str "")))) (tNot (tTest (tOp (cLt c.K) (tVar 5) (tSl rSlS (tVar 0) (tPart (tVar 1)) (tPart (tVar 6))))))))
  (tRet (tUn (rU fun i => .int (-i)) (tC (.int 1))))
  tNext)
  (tSeq (tAsg (tSl rSlS (tVar 0) (tPart (tVar 1)) (tPart (tVar 6))) (gName 5))
  (tSeq (tAsg (tVar 6) (gName 1))
  (tAsg (tOp (bAdd c.K) (tVar 3) (tC (.int 1))) (gName 3))))))))
  (tAsg (tOp (bAdd c.K) (tVar 1) (tC (.int 1))) (gName 1)))))
  (tSeq (tIfS (tTest (tOp (cEq c.K) (tVar 3) (tC (.int 0))))
  (tRet (tUn (rU fun i => .int (-i)) (tC (.int 1))))
  tNext)
  (tRet (tVar 1))))))))
/-- both sides, one behind the other -/
def pP (f : Tx → Option (Tx × Tx)) (l : Tx) : Nat → Option (Nat × Tx)
  | 0 => some (0, l)
  | i + 1 => match pP f l i with
    | none => none
    | some (m, r) => match pS f (124 + i) r with
      | none => none
      | some (ws, r') => some (m + ws.length, r')
theorem pP_none {f : Tx → Option (Tx × Tx)} {l : Tx} {i : Nat} (h : pP f l (i + 1) = none) (hi : i < 2) : pP f l 2 = none := by
  have : i = 0 ∨ i = 1 := by omega
  rcases this with rfl | rfl
  · show (match pP f l 1 with | none => none | some (m, r) => _) = none
    rw [h]
  · exact h
theorem pG_pP {n : Nat} {r0 : Tx} : (pP (pG n) r0 2 = none → pG (n + 1) (123 :: r0) = none) ∧ ∀ m r, pP (pG n) r0 2 = some (m, r) → (m = 0 → pG (n + 1) (123 :: r0) = none) ∧ (m ≠ 0 → ∃ w, pG (n + 1) (123 :: r0) = some (w, r)) := by
  have e : pG (n + 1) (123 :: r0) = (match pS (pG n) 124 r0 with
      | none => none
      | some (a, r1) => match pS (pG n) 125 r1 with
        | none => none
        | some (b, r2) => if a ++ b = [] then none else some (wr a b, r2)) := rfl
  have e2 : pP (pG n) r0 2 = (match (match pS (pG n) 124 r0 with
      | none => none
      | some (ws, r') => some (0 + ws.length, r')) with
    | none => none
    | some (m, r) => match pS (pG n) 125 r with
      | none => none
      | some (ws, r') => some (m + ws.length, r')) := rfl
  rw [e, e2]
  cases h1 : pS (pG n) 124 r0 with
  | none => simp
  | some p =>
    obtain ⟨a, r1⟩ := p
    simp only
    cases h2 : pS (pG n) 125 r1 with
    | none => simp
    | some q =>
      obtain ⟨b, r2⟩ := q
      simp only
      refine ⟨fun z => by simp at z, fun m r h => ?_⟩
      injection h with h
      injection h with h3 h4
      subst h3 h4
      have : 0 + a.length + b.length = (a ++ b).length := by rw [List.length_append]; omega
      rw [this]
      refine ⟨fun z => by rw [if_pos (List.length_eq_zero_iff.mp z)], fun z => ⟨wr a b, by rw [if_neg (fun q => z (by rw [q]; rfl))]⟩⟩
def pC (f : Tx → Option (Tx × Tx)) (e k : Nat) (ms : List Tx) (w : Tx) (r : Tx) : Option (List Tx × Tx) := match r with
  | [] => none
  | c :: r' => if c = e then some (ms, r') else if c = 44 then (match pL f e k (some w) r' with
    | none => none
    | some (ws, r2) => some (ms ++ ws, r2)) else none
theorem pL_pC {f : Tx → Option (Tx × Tx)} {e k : Nat} {last : Option Tx} {l w r : Tx} {ms : List Tx} (h : f l = some (w, r)) (g : ∀ v, last = some v → v < w) : (match pL f e (k + 1) last l with
    | none => none
    | some (ws, r) => some (ms ++ ws, r)) = pC f e k (ms ++ [w]) w r := by
  unfold pL pC
  rw [h]
  simp only
  rw [if_neg fun ⟨v, h1, h2⟩ => h2 (g v h1)]
  cases r with
  | nil => rfl
  | cons c r' =>
    simp only
    by_cases c1 : c = e
    · rw [if_pos c1, if_pos c1]
    · rw [if_neg c1, if_neg c1]
      by_cases c2 : c = 44
      · rw [if_pos c2, if_pos c2]
        cases pL f e k (some w) r' <;> simp
      · rw [if_neg c2, if_neg c2]
theorem pG_ne {n : Nat} {l w r : Tx} (h : pG n l = some (w, r)) : w ≠ [] := by
  obtain ⟨c, t, e, _⟩ := (pG_sound h).2.head
  rw [e]; exact List.cons_ne_nil _ _
theorem r_join0 {A B G : Prop} (h : (A → B) → G) (k : A → B) : G := h k
/-- where the reading of a side stands -/
def LeW (L : Tx) (room : Nat) (e m0 : Nat) (D : Tx) (H : Hp) : Nat → L2.St → Hp → Prop := fun q σ H' => ∃ (x6 : Option V) (a' k : Nat) (lv : Tx) (ms : List Tx), σ = [some (.str (tS L)), some (.int a'), some (.int ((room + 1 : Nat) : Int)), some (.int ((m0 + ms.length : Nat) : Int)), some (.str (T1 e)), some (.str (tS lv)), x6] ∧ H' = H ∧ a' ≤ L.length ∧ q = (L.drop a').length ∧
  (ms = [] ∧ lv = [] ∧ L.drop a' = D ∨ lv ≠ [] ∧ q < k ∧ pS (pG room) e D = pC (pG room) e k ms lv (L.drop a'))
theorem p_law_end {n : Nat} {c : Cn} {mg : Str → Option Value} (T : Txt c mg) {vs : List V} {H : Hp} {Q : VK} {E : XK} (h : sp_law_end (n + 1) c vs H Q E) : t_law_end n c { nx := fun _ H' => Q .non H', rt := Q } (start N_law_end vs) H := by
  obtain ⟨_, L, a, room, rfl, rn, la, lL, kn, ks⟩ := h
  have lS : (tS L).length ≤ 100000 := by rw [tS_len]; omega
  have cut1 : ∀ i : Nat, i ≤ L.length → cutS (tS L) (some (i : Int)) (some ((i : Int) + 1)) = tS ((L.drop i).take 1) := fun i hi => cut_mid (k := 1) hi
  unfold t_law_end
  repeat kaf_suf
  refine v_slS lS ?_
  rw [cut1 a la]
  repeat kaf_suf
  refine r_ite (fun q => ?_) (fun q => ?_)
  · obtain ⟨r, hr⟩ := tS_one.mp (show tS ((L.drop a).take 1) = T1 48 from q)
    have dr := drop_le (w := [48]) (r := r) hr la
    have dr1 : r.length + 1 + a = L.length := dr.1
    repeat kaf_suf
    have ep : pG room (L.drop a) = some ([48], r) := by rw [hr]; cases room <;> rfl
    have := ks [48] r ep
    rw [show ((L.length - r.length : Nat) : Int) = (a : Int) + 1 by omega] at this
    exact this
  have q48 : ¬ ∃ r, L.drop a = 48 :: r := fun z => q (tS_one.mpr z)
  repeat kaf_suf
  refine v_slS lS ?_
  rw [cut1 a la]
  repeat kaf_suf
  refine r_iteN (fun q1 => ?_) (fun q1 => ?_)
  · repeat kaf_suf
    have q123 : ¬ ∃ r, L.drop a = 123 :: r := fun z => q1 (tS_one.mpr z)
    refine kn ?_
    generalize L.drop a = D at q48 q123 ⊢
    cases room with
    | zero =>
      unfold pG
      split
      · rename_i r; exact absurd ⟨r, rfl⟩ q48
      · rfl
    | succ room =>
      unfold pG
      split
      · rename_i r; exact absurd ⟨r, rfl⟩ q48
      · rename_i r; exact absurd ⟨r, rfl⟩ q123
      · rfl
  obtain ⟨r0, hr0⟩ := tS_one.mp (show tS ((L.drop a).take 1) = T1 123 from q1)
  obtain ⟨dl0, dr0⟩ := drop_le (w := [123]) (r := r0) hr0 la
  have dl0 : r0.length + 1 + a = L.length := dl0
  repeat kaf_suf
  refine r_ite (fun z0 => ?_) (fun z0 => ?_)
  · have : room = 0 := by omega
    subst this
    repeat kaf_suf
    refine kn ?_
    rw [hr0]; rfl
  obtain ⟨rm, rfl⟩ : ∃ rm, room = rm + 1 := ⟨room - 1, by omega⟩
  have pp := pG_pP (n := rm) (r0 := r0)
  rw [← hr0] at pp
  have e0 : (a : Int) + 1 = ((L.length - r0.length : Nat) : Int) := by omega
  repeat kaf_suf
  rw [e0]
  refine r_iStr ?_
  repeat kaf_suf
  refine ⟨_, rfl, ?_⟩
  refine for_str (z := ("|}" : Str)) (fun i σ H' => ∃ (x4 x5 x6 : Option V) (m : Nat) (r : Tx), σ = [some (.str (tS L)), some (.int ((L.length - r.length : Nat) : Int)), some (.int ((rm + 1 : Nat) : Int)), some (.int (m : Int)), x4, x5, x6] ∧ H' = H ∧ pP (pG rm) r0 i = some (m, r) ∧ r.length ≤ L.length ∧ L.drop (L.length - r.length) = r) ⟨_, _, _, 0, r0, rfl, rfl, rfl, by omega, dr0⟩ ?_ ?_
  rotate_left
  · rintro σ H1 ⟨x4, x5, x6, m, r, rfl, rfl, hp, rl, rd⟩
    obtain ⟨p1, p2⟩ := pp.2 m r hp
    repeat kaf_suf
    refine r_ite (fun z => ?_) (fun z => ?_)
    · repeat kaf_suf
      exact kn (p1 (by omega))
    · repeat kaf_suf
      obtain ⟨w, hw⟩ := p2 (by omega)
      exact ks w r hw
  rintro i ch σ H1 hc ⟨x4, x5, x6, m, r, rfl, rfl, hp, rl, rd⟩
  have hi : i < 2 ∧ ch = 124 + i := by
    have hc : ([124, 125] : List Nat)[i]? = some ch := hc
    have := (List.getElem?_eq_some_iff.mp hc).1
    have : i = 0 ∨ i = 1 := by simp at this; omega
    rcases this with rfl | rfl
    · injection hc with hc; exact ⟨by omega, hc.symm⟩
    · injection hc with hc; exact ⟨by omega, hc.symm⟩
  obtain ⟨hi, rfl⟩ := hi
  have e44 : 124 + i ≠ 44 := by omega
  have hpn : pS (pG rm) (124 + i) r = none → pG (rm + 1) (L.drop a) = none := fun z => pp.1 (pP_none (by show (match pP (pG rm) r0 i with | none => none | some (m, r) => _) = none; rw [hp]; simp only; rw [z]) hi)
  have hps : ∀ ws r', pS (pG rm) (124 + i) r = some (ws, r') → pP (pG rm) r0 (i + 1) = some (m + ws.length, r') := fun ws r' z => by
    show (match pP (pG rm) r0 i with | none => none | some (m, r) => _) = _
    rw [hp]; simp only; rw [z]
  repeat kaf_suf
  refine ⟨LeW L rm (124 + i) m r H1, ⟨_, _, L.length - r.length, 0, [], [], rfl, rfl, by omega, rfl, .inl ⟨rfl, rfl, rd⟩⟩, ?_⟩
  rintro q' σ H2 ⟨x6', a', k, lv, ms, rfl, rfl, la', rfl, hh⟩
  repeat kaf_suf
  refine v_slS lS ?_
  rw [cut1 a' la']
  repeat kaf_suf
  refine r_iteN (fun q2 => ?_) (fun q2 => ?_)
  rotate_left
  · obtain ⟨r', hr'⟩ := tS_one.mp q2
    have dr := drop_le (w := [124 + i]) (r := r') hr' la'
    have dr1 : r'.length + 1 + a' = L.length := dr.1
    have ep : pS (pG rm) (124 + i) r = some (ms, r') := by
      rcases hh with ⟨rfl, _, hd⟩ | ⟨_, _, e⟩
      · rw [← hd, hr']; unfold pS; simp
      · rw [e, hr']; unfold pC; simp
    repeat kaf_suf
    rw [show (a' : Int) + 1 = ((L.length - r'.length : Nat) : Int) by omega]
    exact ⟨_, _, _, _, r', rfl, rfl, hps _ _ ep, by omega, dr.2⟩
  have q3 : ¬ ∃ r', L.drop a' = (124 + i) :: r' := fun z => q2 (tS_one.mpr z)
  refine ⟨_, fun σ' H' (z : ∃ m', m' < _ ∧ LeW L rm (124 + i) m r H2 m' σ' H') => z, ?_⟩
  repeat kaf_suf
  refine ⟨fun σ' H' => ∃ (a'' k : Nat) (last : Option Tx), σ' = [some (.str (tS L)), some (.int a''), some (.int ((rm + 1 : Nat) : Int)), some (.int ((m + ms.length : Nat) : Int)), some (.str (T1 (124 + i))), some (.str (tS lv)), x6'] ∧ H' = H2 ∧ a'' ≤ L.length ∧ a' ≤ a'' ∧ (L.drop a'').length ≤ k ∧ (lv = [] ∧ last = none ∨ lv ≠ [] ∧ last = some lv) ∧ pS (pG rm) (124 + i) r = (match pL (pG rm) (124 + i) (k + 1) last (L.drop a'') with | none => none | some (ws, r) => some (ms ++ ws, r)), ?_, ?_⟩
  · repeat kaf_suf
    rcases hh with ⟨rfl, rfl, hd⟩ | ⟨lne, qk, he⟩
    · refine r_iteN (fun z => absurd rfl z) (fun _ => ?_)
      repeat kaf_suf
      refine ⟨a', (L.drop a').length, none, rfl, rfl, la', Nat.le_refl _, Nat.le_refl _, .inl ⟨rfl, rfl⟩, ?_⟩
      have ep : pS (pG rm) (124 + i) r = pL (pG rm) (124 + i) ((L.drop a').length + 1) none (L.drop a') := by
        rw [← hd]
        generalize L.drop a' = D at q3 ⊢
        cases D with
        | nil => unfold pS; rfl
        | cons x D =>
          unfold pS
          simp only
          rw [if_neg fun z => q3 ⟨D, by rw [z]⟩]
      rw [ep]
      cases pL (pG rm) (124 + i) ((L.drop a').length + 1) none (L.drop a') <;> rfl
    · refine r_iteN (fun _ => ?_) (fun z => absurd (tS_inj (show tS lv = tS [] from z)) lne)
      repeat kaf_suf
      refine v_slS lS ?_
      rw [cut1 a' la']
      repeat kaf_suf
      refine r_iteN (fun q4 => ?_) (fun q4 => ?_)
      · repeat kaf_suf
        refine kn (hpn ?_)
        rw [he]
        generalize L.drop a' = D at q3 q4 ⊢
        cases D with
        | nil => rfl
        | cons x D =>
          unfold pC
          simp only
          rw [if_neg fun z => q3 ⟨D, by rw [z]⟩, if_neg fun z => q4 (by rw [z]; rfl)]
      · obtain ⟨r', hr'⟩ := tS_one.mp (show tS ((L.drop a').take 1) = T1 44 from q4)
        have dr := drop_le (w := [44]) (r := r') hr' la'
        have dr1 : r'.length + 1 + a' = L.length := dr.1
        have da : L.drop (a' + 1) = r' := by rw [← dr.2]; congr 1; omega
        have dl : (L.drop a').length = r'.length + 1 := by rw [hr']; rfl
        obtain ⟨k', rfl⟩ : ∃ k', k = k' + 1 := ⟨k - 1, by omega⟩
        repeat kaf_suf
        refine ⟨a' + 1, k', some lv, rfl, rfl, by omega, by omega, by rw [da]; omega, .inr ⟨lne, rfl⟩, ?_⟩
        rw [he, hr', da]
        unfold pC
        simp only
        rw [if_neg (Ne.symm e44)]
        simp only [if_true]
  rintro σ' H' ⟨a'', k2, last, rfl, rfl, la2, aa, lk, hl, eq⟩
  repeat kaf_suf
  refine ⟨rfl, L, a'', rm, by rw [show ((rm + 1 : Nat) : Int) - 1 = (rm : Int) by omega], by omega, la2, lL, fun no => ?_, fun w r2 so => ?_⟩
  · repeat kaf_suf
    exact kn (hpn (by rw [eq]; unfold pL; rw [no]))
  obtain ⟨hL, wrw⟩ := pG_sound so
  obtain ⟨dl, dr⟩ := drop_le hL la2
  have wne := pG_ne so
  have wpos := List.length_pos_iff.mpr wne
  have cw : cutS (tS L) (some (a'' : Int)) (some ((L.length - r2.length : Nat) : Int)) = tS w := by
    rw [show L.length - r2.length = a'' + w.length by omega, cut_mid la2, hL, List.take_left]
  repeat kaf_suf
  apply r_join0 (A := ∀ v, last = some v → v < w)
  · intro key
    refine r_iteN (fun l0 => ?_) (fun l0 => ?_)
    · have hlast : last = some lv := by
        rcases hl with ⟨h, _⟩ | ⟨_, h⟩
        · exact absurd (by rw [h]; rfl) l0
        · exact h
      repeat kaf_suf
      refine v_slS lS ?_
      rw [cw]
      repeat kaf_suf
      refine r_iteN (fun nl => ?_) (fun lt => ?_)
      · repeat kaf_suf
        have nl : ¬ lv < w := nl
        exact kn (hpn (by rw [eq]; unfold pL; rw [so]; simp only; rw [if_pos ⟨lv, hlast, nl⟩]))
      · repeat kaf_suf
        exact key (fun v hv => by rw [hlast] at hv; cases hv; exact lt)
    · repeat kaf_suf
      exact key (fun v hv => by
        rcases hl with ⟨_, h⟩ | ⟨h, _⟩
        · rw [h] at hv; cases hv
        · exact absurd (tS_inj (show tS lv = tS [] from l0)) h)
  intro good
  repeat kaf_suf
  refine v_slS lS ?_
  rw [cw]
  repeat kaf_suf
  refine ⟨(L.drop (L.length - r2.length)).length, by rw [dr]; have := congrArg List.length hL; rw [List.length_append] at this; have := List.length_drop (i := a'') (l := L); have := List.length_drop (i := a') (l := L); omega, some (.int ((L.length - r2.length : Nat) : Int)), L.length - r2.length, k2, w, ms ++ [w], ?_, rfl, by omega, rfl, .inr ⟨wne, ?_, ?_⟩⟩
  · rw [show ((m + (ms ++ [w]).length : Nat) : Int) = ((m + ms.length : Nat) : Int) + 1 by rw [List.length_append, List.length_singleton]; omega]
    rfl
  · rw [dr]; have := congrArg List.length hL; rw [List.length_append] at this; omega
  · rw [eq, dr]
    exact pL_pC so good
theorem cal_law_end {c : Cn} {mg : Str → Option Value} {base : Heap} (T : Txt c mg) : ∀ n : Nat, Cal c.P c.w c.K mg base CX0 (1 + n) "_law_end" (sp_law_end n c)
  | 0 => by
    obtain ⟨f, fd, F, g, b⟩ := T.F_law_end
    exact ⟨f, fd, ["text", "at", "room"], F.ok (k := 0) (N := N_law_end) sc_law_end (fun vs H Q E h => (z_law_end h).elim) (fun cdv A outer s H vs Q E hr h => (z_law_end h).elim), g, F.kp, b⟩
  | n + 1 => by
    obtain ⟨f, fd, F, g, b⟩ := T.F_law_end
    exact ⟨f, fd, ["text", "at", "room"], F.ok (k := 1 + n) (N := N_law_end) sc_law_end (fun vs H Q E h => h.1) (fun cdv A outer s H vs Q E hr h => ⟨t_law_end n c, by
  exact (pss_cons (ps_if (pt_cmpR (o_eq (hu64 hr)) (pe_slice sl_str (pv 0) (po_some (pv 1)) (po_some (pe_op o_add (pv 1) pe_int))) pe_str (nomark _)) (pss_one (ps_ret (pe_op o_add (pv 1) pe_int))) pss_nil)
  (pss_cons (ps_if (PW.pt (pw_or (pt_cmpR (o_ne (hu64 hr)) (pe_slice sl_str (pv 0) (po_some (pv 1)) (po_some (pe_op o_add (pv 1) pe_int))) pe_str (nomark _)) (pw_or1 (pt_cmpR (o_eq (hu64 hr)) (pv 2) pe_int (nomark _))))) (pss_one (ps_ret (pe_un un_neg pe_int))) pss_nil)
  (pss_cons (ps_set (i := 1) sc_law_end.nd rfl (Or.inl rfl) (pe_op o_add (pv 1) pe_int))
  (pss_cons (ps_set (i := 3) sc_law_end.nd rfl (Or.inl rfl) pe_int)
  (pss_cons (ps_for PassesOwn.never rfl (pi_str pe_str) (pg_name (i := 4) sc_law_end.nd rfl (Or.inl rfl))
  (pss_cons (ps_set (i := 5) sc_law_end.nd rfl (Or.inl rfl) pe_str)
  (pss_cons (ps_while PassesOwn.never (PW.pt (pw_and (pt_cmpR o_ge (pv 1) pe_int (nomark _)) (pw_and1 (pt_cmpR (o_ne (hu64 hr)) (pe_slice sl_str (pv 0) (po_some (pv 1)) (po_some (pe_op o_add (pv 1) pe_int))) (pv 4) (nomark _)))))
  (C8.pss_cut (ps_if (pt_cmpR (o_ne (hu64 hr)) (pv 5) pe_str (nomark _)) (pss_cons (ps_if (pt_cmpR (o_ne (hu64 hr)) (pe_slice sl_str (pv 0) (po_some (pv 1)) (po_some (pe_op o_add (pv 1) pe_int))) pe_str (nomark _)) (pss_one (ps_ret (pe_un un_neg pe_int))) pss_nil)
  (pss_one (ps_set (i := 1) sc_law_end.nd rfl (Or.inl rfl) (pe_op o_add (pv 1) pe_int)))) pss_nil)
  (pss_cons (ps_set (i := 6) sc_law_end.nd rfl (Or.inl rfl) (e_call (cal_law_end T n) hr (by omega) pass0 rfl (pa_cons (pv 0) (pa_cons (pv 1) (pa_cons (pe_op o_sub (pv 2) pe_int) pa_nil)))))
  (pss_cons (ps_if (PW.pt (pw_or (pt_cmpR (o_lt (hu64 hr)) (pv 6) pe_int (nomark _)) (pw_or1 (PW.pt (pw_and (pt_cmpR (o_ne (hu64 hr)) (pv 5) pe_str (nomark _)) (pw_and1 (pt_not (pt_cmpR (o_lt (hu64 hr)) (pv 5) (pe_slice sl_str (pv 0) (po_some (pv 1)) (po_some (pv 6))) (nomark _))))))))) (pss_one (ps_ret (pe_un un_neg pe_int))) pss_nil)
  (pss_cons (ps_set (i := 5) sc_law_end.nd rfl (Or.inl rfl) (pe_slice sl_str (pv 0) (po_some (pv 1)) (po_some (pv 6))))
  (pss_cons (ps_set (i := 1) sc_law_end.nd rfl (Or.inl rfl) (pv 6))
  (pss_one (ps_set (i := 3) sc_law_end.nd rfl (Or.inl rfl) (pe_op o_add (pv 3) pe_int)))))))))
  (pss_one (ps_set (i := 1) sc_law_end.nd rfl (Or.inl rfl) (pe_op o_add (pv 1) pe_int))))))
  (pss_cons (ps_if (pt_cmpR (o_eq (hu64 hr)) (pv 3) pe_int (nomark _)) (pss_one (ps_ret (pe_un un_neg pe_int))) pss_nil)
  (pss_one (ps_ret (pv 1))))))))), p_law_end T h⟩), g, F.kp, b⟩

def sp_law_walked (n : Nat) (c : Cn) : Sp := fun vs H Q E => vs.length = 2 ∧ ∃ (b : Addr) (M : Addr → Prop) (gs : List Gm) (ds : List Int) (g : Nat), vs = [.ref b, .int g] ∧ BookAt c H b M gs ds ∧ g < gs.length ∧ LnB gs ∧ (∃ k, k < n ∧ Wr k (tx gs g)) ∧
  ∀ H', Keep Nil H H' → Q (.str (tS (tx gs g))) H'
theorem z_law_walked {c : Cn} {vs : List V} {H : Hp} {Q : VK} {E : XK} (h : sp_law_walked 0 c vs H Q E) : False := by
  obtain ⟨_, b, M, gs, ds, g, _, _, _, _, ⟨k, lt, _⟩, _⟩ := h
  omega
abbrev N_law_walked : List Str := ["book", "g", "left", "move"]
theorem sc_law_walked : FnScope N_law_walked ["book", "g"] (defScope s_law_walked) := ⟨rfl, rfl, rfl, by decide +kernel, rfl, by decide +kernel, by decide +kernel⟩
def t_law_walked (n : Nat) (c : Cn) : TS :=
  (tSeq (tIfS (tAnd (tTest (tOp (cEq c.K) (tMeth c.cBook "lefts" (sp_Book_lefts c) [] E0 (tVar 0) (tCons (tVar 1) tNil)) (tLst tNil))) (tTest (tOp (cEq c.K) (tMeth c.cBook "rights" (sp_Book_rights c) [] E0 (tVar 0) (tCons (tVar 1) tNil)) (tLst tNil))))
  (tRet (tC (.str "0")))
  tNext)
  (tSeq (tAsg (tCall (sp_law_listed c) [] E0 (tCons (tLc (iAny c.K (tMeth c.cBook "lefts" (sp_Book_lefts c) [] E0 (tVar 0) (tCons (tVar 1) tNil))) (gName 3) tYes (tCall (sp_law_walked n c) [] E0 (tCons (tVar 0) (tCons (tVar 3) tNil))) [3]) tNil)) (gName 2))
  (tRet (tOp (bAdd c.K) (tOp (bAdd c.K) (tOp (bAdd c.K) (tOp (bAdd c.K) (tC (.str "{")) (tVar 2)) (tC (.str "|"))) (tCall (sp_law_listed c) [] E0 (tCons (tLc (iAny c.K (tMeth c.cBook "rights" (sp_Book_rights c) [] E0 (tVar 0) (tCons (tVar 1) tNil))) (gName 3) tYes (tCall (sp_law_walked n c) [] E0 (tCons (tVar 0) (tCons (tVar 3) tNil))) [3]) tNil))) (tC (.str "}"))))))
theorem walk_lc {n : Nat} {c : Cn} {mg : Str → Option Value} (T : Txt c mg) {b q : Addr} {M : Addr → Prop} {gs : List Gm} {ds : List Int} {l : List Int} {x1 x2 x3 : Option V} {H : Hp} {Q : VK}
    (B : BookAt c H b M gs ds) (so : LnB gs) (eq : H q = some (.lst (l.map V.int))) {kk : Nat} (kn : kk < n) (lo : ∀ z ∈ l, 0 ≤ z ∧ z < gs.length ∧ Wr kk (tx gs z.toNat)) (few : l.length ≤ 7000)
    (k : ∀ (H' : Hp) (r : Addr), Keep Nil H H' → H r = none → H' r = some (.lst ((l.map fun z => tx gs z.toNat).map fun x => V.str (tS x))) → Q (.ref r) H') :
    kLc (Itl c.K q) (gName 3) tYes (tCall (sp_law_walked n c) [] E0 (tCons (tVar 0) (tCons (tVar 3) tNil))) [3] [some (.ref b), x1, x2, x3] H Q := by
  intro D0 hD
  refine lc_list (xs := l.map V.int) (fun j H' => Keep Nil H H' ∧ H' D0 = some (.lst (((l.take j).map fun z => tx gs z.toNat).map fun x => V.str (tS x)))) ⟨Keep.alloc hD, upd_same⟩ ?_ ?_ ?_
  · rintro j H' _ ⟨k1, _⟩
    exact SqL.of (k1.get (fun z => z) eq)
  · rintro j x H1 hj ⟨k1, eD⟩
    rw [List.getElem?_map] at hj
    obtain ⟨z, hz, rfl⟩ := Option.map_eq_some_iff.mp hj
    have hj1 := (List.getElem?_eq_some_iff.mp hz).1
    obtain ⟨z0, z1, z2⟩ := lo z (List.mem_of_getElem? hz)
    repeat kaf_suf
    refine ⟨rfl, ?_⟩
    repeat kaf_suf
    refine ⟨rfl, b, M, gs, ds, z.toNat, by rw [Int.toNat_of_nonneg z0], B.same k1, by omega, so, ⟨kk, kn, z2⟩, fun H2 k2 => ?_⟩
    have eD2 := k2.get (fun z => z) eD
    refine ⟨_, eD2, few1 (by rw [List.length_map, List.length_map, List.length_take]; omega), (k1.trans k2).setN hD, ?_⟩
    rw [upd_same, List.take_succ, hz]
    simp
  · rintro H' ⟨k1, eD⟩
    rw [List.length_map, List.take_length] at eD
    exact k _ D0 k1 hD eD
theorem p_law_walked {n : Nat} {c : Cn} {mg : Str → Option Value} (T : Txt c mg) {vs : List V} {H : Hp} {Q : VK} {E : XK} (h : sp_law_walked (n + 1) c vs H Q E) : t_law_walked n c { nx := fun _ H' => Q .non H', rt := Q } (start N_law_walked vs) H := by
  obtain ⟨_, b, M, gs, ds, g, rfl, B, hg, so, ⟨kk, gn, hw⟩, k⟩ := h
  obtain ⟨gm, hgm⟩ : ∃ gm, gs[g]? = some gm := ⟨_, List.getElem?_eq_getElem hg⟩
  have o := B.ok
  have lo := o.low g gm hgm
  have m1 : mvs gs g true = gm.1 := by unfold mvs; rw [hgm]; rfl
  have m2 : mvs gs g false = gm.2 := by unfold mvs; rw [hgm]; rfl
  have emp : gm.1 = [] ∧ gm.2 = [] ↔ g = 0 := by
    constructor
    · rintro ⟨e1, e2⟩
      have : gm = ([], []) := Prod.ext e1 e2
      rw [this] at hgm
      exact (List.getElem_inj o.nd).mp ((List.getElem?_eq_some_iff.mp hgm).2.trans (List.getElem?_eq_some_iff.mp o.zero).2.symm)
    · rintro rfl
      rw [o.zero] at hgm
      injection hgm with hgm
      rw [← hgm]
      exact ⟨rfl, rfl⟩
  obtain ⟨bx, bm, bn, bd, hb⟩ := B.ins_
  unfold t_law_walked
  repeat kaf_suf
  apply r_join (H1 := H) (A := g ≠ 0)
  · intro key
    refine ⟨rfl, b, M, gs, ds, g, gm, rfl, B, hgm, fun p hp => ?_⟩
    have kp : Keep Nil H (upd H p (.lst (gm.1.map V.int))) := Keep.alloc hp
    have ep : (upd H p (.lst (gm.1.map V.int))) p = some (.lst (gm.1.map V.int)) := upd_same
    generalize upd H p (.lst (gm.1.map V.int)) = H1 at kp ep ⊢
    repeat kaf_suf
    intro q hq
    refine v_eqD (dp_ints (get_new hq ep)) (.lst (SqL.of upd_same) .nil) (dInts_sh _) (dInts_sh []) ?_
    rw [show PyData.eqv (dInts gm.1) (.list []) = decide (gm.1 = []) from eqv_dInts gm.1 []]
    have kq : Keep Nil H (upd H1 q (.lst [])) := kp.new hq
    generalize upd H1 q (.lst []) = H2 at kq ⊢
    refine r_kB (r_ite (fun r1 => ?_) (fun r1 => ?_))
    · have hb2 := kq.get (fun z => z) hb
      repeat kaf_suf
      refine ⟨rfl, b, M, gs, ds, g, gm, rfl, B.same kq, hgm, fun p2 hp2 => ?_⟩
      have ep2 : (upd H2 p2 (.lst (gm.2.map V.int))) p2 = some (.lst (gm.2.map V.int)) := upd_same
      have kp2 : Keep Nil H (upd H2 p2 (.lst (gm.2.map V.int))) := kq.new hp2
      generalize upd H2 p2 (.lst (gm.2.map V.int)) = H3 at kp2 ep2 ⊢
      repeat kaf_suf
      intro q2 hq2
      refine v_eqD (dp_ints (get_new hq2 ep2)) (.lst (SqL.of upd_same) .nil) (dInts_sh _) (dInts_sh []) ?_
      rw [show PyData.eqv (dInts gm.2) (.list []) = decide (gm.2 = []) from eqv_dInts gm.2 []]
      have kq2 : Keep Nil H (upd H3 q2 (.lst [])) := kp2.new hq2
      generalize upd H3 q2 (.lst []) = H4 at kq2 ⊢
      refine r_kB (r_ite (fun r2 => ?_) (fun r2 => ?_))
      · repeat kaf_suf
        have := k _ kq2
        rw [emp.mp ⟨r1, r2⟩] at this
        exact this
      · exact key (fun z => r2 (emp.mpr z).2) _ kq2
    · exact key (fun z => r1 (emp.mpr z).1) _ kq
  intro g0 H1 k1
  have hb1 := k1.get (fun z => z) hb
  repeat kaf_suf
  refine ⟨rfl, b, M, gs, ds, g, gm, rfl, B.same k1, hgm, fun p hp => ?_⟩
  have k2 : Keep Nil H (upd H1 p (.lst (gm.1.map V.int))) := k1.new hp
  have ep : (upd H1 p (.lst (gm.1.map V.int))) p = some (.lst (gm.1.map V.int)) := upd_same
  generalize upd H1 p (.lst (gm.1.map V.int)) = H2 at k2 ep ⊢
  repeat kaf_suf
  obtain ⟨k', rfl, wm⟩ := wr_mv o hg g0 hw
  have w1 := wm true
  have w2 := wm false
  have su1 := mv_sum o hg g0 true
  have su2 := mv_sum o hg g0 false
  rw [m1] at w1 su1
  rw [m2] at w2 su2
  have txl := so g hg
  have f1 : gm.1.length ≤ 7000 := by have := sum_len (l := gm.1.map fun z => tx gs z.toNat); rw [List.length_map] at this; omega
  have f2 : gm.2.length ≤ 7000 := by have := sum_len (l := gm.2.map fun z => tx gs z.toNat); rw [List.length_map] at this; omega
  have lo1 : ∀ z ∈ gm.1, 0 ≤ z ∧ z < gs.length ∧ Wr k' (tx gs z.toNat) := fun z hz => by have := lo z (List.mem_append_left _ hz); exact ⟨by omega, by omega, w1 z hz⟩
  have lo2 : ∀ z ∈ gm.2, 0 ≤ z ∧ z < gs.length ∧ Wr k' (tx gs z.toNat) := fun z hz => by have := lo z (List.mem_append_right _ hz); exact ⟨by omega, by omega, w2 z hz⟩
  refine walk_lc T (B.same k2) so ep (by omega) lo1 f1 fun H3 r3 k3 hr3 er3 => ?_
  repeat kaf_suf
  refine ⟨rfl, r3, _, rfl, er3, by rw [List.length_map]; omega, by omega, fun H4 k4 => ?_⟩
  have k24 := (k2.trans k3).trans k4
  have hb4 := k24.get (fun z => z) hb
  have b1 := canonT_sum (l := gm.1.map fun z => tx gs z.toNat)
  have b1' := jc_len (l := canonT (gm.1.map fun z => tx gs z.toNat))
  have b2 := canonT_sum (l := gm.2.map fun z => tx gs z.toNat)
  have b2' := jc_len (l := canonT (gm.2.map fun z => tx gs z.toNat))
  have er : tx gs g = wr (canonT (gm.1.map fun z => tx gs z.toNat)) (canonT (gm.2.map fun z => tx gs z.toNat)) := by rw [tx_eq o hg g0, m1, m2]
  repeat kaf_suf
  rw [show ("{" : Str) = tS [123] from rfl]
  refine v_addS (by rw [tS_len, tS_len, sizeLine_eq]; simp only [List.length_cons, List.length_append, List.length_nil]; omega) ?_
  rw [tS_app]
  repeat kaf_suf
  rw [show ("|" : Str) = tS [124] from rfl]
  refine v_addS (by rw [tS_len, tS_len, sizeLine_eq]; simp only [List.length_cons, List.length_append, List.length_nil]; omega) ?_
  rw [tS_app]
  repeat kaf_suf
  refine ⟨rfl, b, M, gs, ds, g, gm, rfl, B.same k24, hgm, fun p2 hp2 => ?_⟩
  have k5 : Keep Nil H (upd H4 p2 (.lst (gm.2.map V.int))) := k24.new hp2
  have ep2 : (upd H4 p2 (.lst (gm.2.map V.int))) p2 = some (.lst (gm.2.map V.int)) := upd_same
  generalize upd H4 p2 (.lst (gm.2.map V.int)) = H5 at k5 ep2 ⊢
  repeat kaf_suf
  refine walk_lc T (B.same k5) so ep2 (by omega) lo2 f2 fun H6 r6 k6 hr6 er6 => ?_
  repeat kaf_suf
  refine ⟨rfl, r6, _, rfl, er6, by rw [List.length_map]; omega, by omega, fun H7 k7 => ?_⟩
  repeat kaf_suf
  refine v_addS (by rw [tS_len, tS_len, sizeLine_eq]; simp only [List.length_cons, List.length_append, List.length_nil]; omega) ?_
  rw [tS_app]
  repeat kaf_suf
  rw [show ("}" : Str) = tS [125] from rfl]
  refine v_addS (by rw [tS_len, tS_len, sizeLine_eq]; simp only [List.length_cons, List.length_append, List.length_nil]; omega) ?_
  rw [tS_app]
  have := k _ ((k5.trans k6).trans k7)
  rw [er] at this
  unfold wr at this
  simp only [List.cons_append, List.nil_append, List.append_assoc] at this ⊢
  exact this
theorem cal_law_walked {c : Cn} {mg : Str → Option Value} {base : Heap} (T : Txt c mg) : ∀ n : Nat, Cal c.P c.w c.K mg base CX0 (4 + n) "_law_walked" (sp_law_walked n c)
  | 0 => by
    obtain ⟨f, fd, F, g, b⟩ := T.F_law_walked
    exact ⟨f, fd, ["book", "g"], F.ok (k := 3) (N := N_law_walked) sc_law_walked (fun vs H Q E h => (z_law_walked h).elim) (fun cdv A outer s H vs Q E hr h => (z_law_walked h).elim), g, F.kp, b⟩
  | n + 1 => by
    obtain ⟨f, fd, F, g, b⟩ := T.F_law_walked
    exact ⟨f, fd, ["book", "g"], F.ok (k := 4 + n) (N := N_law_walked) sc_law_walked (fun vs H Q E h => h.1) (fun cdv A outer s H vs Q E hr h => ⟨t_law_walked n c, by
  exact (pss_cons (ps_if (PW.pt (pw_and (pt_cmpR (o_eq (hu64 hr)) (e_meth (met_Book_lefts T) hr (by omega) passL (pv 0) (pa_cons (pv 1) pa_nil)) (pe_lst pa_nil) (nomark _)) (pw_and1 (pt_cmpR (o_eq (hu64 hr)) (e_meth (met_Book_rights T) hr (by omega) passL (pv 0) (pa_cons (pv 1) pa_nil)) (pe_lst pa_nil) (nomark _))))) (pss_one (ps_ret pe_str)) pss_nil)
  (pss_cons (ps_set (i := 2) sc_law_walked.nd rfl (Or.inl rfl) (e_call (cal_law_listed T) hr (by omega) pass0 rfl (pa_cons (pe_lc (own := [("move", 3)]) rfl sc_law_walked.nd (pi_any (e_meth (met_Book_lefts T) hr (by omega) passL (pv 0) (pa_cons (pv 1) pa_nil))) (blkOk_by (own := [("move", 3)]) (N := N_law_walked) (sc := defScope s_law_walked) (by decide +kernel)) (fun _ _ _ _ _ => (pg_name (i := 3) sc_law_walked.nd rfl (Or.inl rfl))) (fun _ _ _ _ _ => pts_nil) (fun _ _ _ _ _ => (e_call (cal_law_walked T n) hr (by omega) pass0 rfl (pa_cons (pv 0) (pa_cons (pv 3) pa_nil))))) pa_nil)))
  (pss_one (ps_ret (pe_op o_add (pe_op o_add (pe_op o_add (pe_op o_add pe_str (pv 2)) pe_str) (e_call (cal_law_listed T) hr (by omega) pass0 rfl (pa_cons (pe_lc (own := [("move", 3)]) rfl sc_law_walked.nd (pi_any (e_meth (met_Book_rights T) hr (by omega) passL (pv 0) (pa_cons (pv 1) pa_nil))) (blkOk_by (own := [("move", 3)]) (N := N_law_walked) (sc := defScope s_law_walked) (by decide +kernel)) (fun _ _ _ _ _ => (pg_name (i := 3) sc_law_walked.nd rfl (Or.inl rfl))) (fun _ _ _ _ _ => pts_nil) (fun _ _ _ _ _ => (e_call (cal_law_walked T n) hr (by omega) pass0 rfl (pa_cons (pv 0) (pa_cons (pv 3) pa_nil))))) pa_nil))) pe_str))))), p_law_walked T h⟩), g, F.kp, b⟩

/-! texts that are near a game's -/
theorem foldl_len (c : Array Nat) : ∀ (n : Nat) (a : Array Nat), ((List.replicate n c).foldl (· ++ ·) a).size = a.size + c.size * n
  | 0, a => by simp
  | n + 1, a => by
    rw [List.replicate_succ, List.foldl_cons, foldl_len c n, Array.size_append, Nat.mul_succ]
    omega
theorem mul_len (z : Str) {n : Int} (h : 0 ≤ n) : (Txt.mul z n).length ≤ z.length * n.toNat := by
  unfold Txt.mul
  split
  · exact Nat.zero_le _
  · split
    · have : 1 ≤ n.toNat := by omega
      exact Nat.le_trans (by omega) (Nat.mul_le_mul_left z.length this)
    · show ((List.replicate n.toNat z.cps).foldl (· ++ ·) #[]).size ≤ _
      rw [foldl_len]
      show 0 + z.cps.size * n.toNat ≤ z.cps.size * n.toNat
      omega
theorem atI_any {P : V → Prop} {xs : List V} {i : Int} (h0 : 0 ≤ i) (h1 : i < xs.length) (h : ∀ x ∈ xs, P x) : ∃ x, atI xs i = some x ∧ P x := by
  have hi : i.toNat < xs.length := by omega
  exact ⟨xs[i.toNat], atI_get (n := i.toNat) (List.getElem?_eq_getElem hi) (by omega), h _ (List.getElem_mem hi)⟩
def ShS (n : Nat) (x : V) : Prop := ∃ s : Str, x = .str s ∧ s.length ≤ n
theorem ShS.cons {n : Nat} {s : Str} {r : List V} (h : s.length ≤ n) (k : ∀ x ∈ r, ShS n x) : ∀ x ∈ V.str s :: r, ShS n x := fun x hx => by
  rcases List.mem_cons.mp hx with rfl | hx
  · exact ⟨s, rfl, h⟩
  · exact k x hx
theorem ShS.nil {n : Nat} : ∀ x ∈ ([] : List V), ShS n x := fun x h => nomatch h
theorem add_len (a b : Str) : (a ++ b).length = a.length + b.length := by
  show (⟨a.cps ++ b.cps⟩ : Str).cps.size = _
  simp [Str.length]
abbrev N_law_sign : List Str := ["store", "signs"]
theorem sc_law_sign : FnScope N_law_sign ["store"] (defScope s_law_sign) := ⟨rfl, rfl, rfl, by decide +kernel, rfl, by decide +kernel, by decide +kernel⟩
def t_law_sign (c : Cn) : TS :=
  (tSeq (tAsg (tC (.str " !#$&'()*+,-./0123456789:;<=>?@ABCDEFGHIJKLMNOPQRSTUVWXYZ[]^_abcdefghijklmnopqrstuvwxyz{|}~")) (gName 1))
  (tSeq (tAsg (tOp (bAdd c.K) (tOp (bAdd c.K) (tVar 1) (tC (.str "\t\n\"\\"))) (tOp bMulS (tC (.str "{}|,0")) (tC (.int 20)))) (gName 1))
  (tRet (tOp (bIx c.P c.w c.K) (tVar 1) (tCall (sp_law_take c) [] E0 (tCons (tVar 0) (tCons (tCB (kLen c.K) (tCons (tVar 1) tNil)) tNil)))))))
def sp_law_sign (c : Cn) : Sp := fun vs H Q E => vs.length = 1 ∧ ∃ (s : Addr), vs = [.ref s] ∧ StA H s ∧ ∀ (H' : Hp) (z : Str), Keep (fun x => x = s) H H' → StA H' s → z.length ≤ 1 → Q (.str z) H'
theorem p_law_sign {c : Cn} {mg : Str → Option Value} (T : Txt c mg) {vs : List V} {H : Hp} {Q : VK} {E : XK} (h : sp_law_sign c vs H Q E) : t_law_sign c { nx := fun _ H' => Q .non H', rt := Q } (start N_law_sign vs) H := by
  obtain ⟨_, s, rfl, St, k⟩ := h
  unfold t_law_sign
  repeat kaf_suf
  have l0 : (" !#$&'()*+,-./0123456789:;<=>?@ABCDEFGHIJKLMNOPQRSTUVWXYZ[]^_abcdefghijklmnopqrstuvwxyz{|}~" : Str).length ≤ 100 := by decide +kernel
  have l1 : ("\t\n\"\\" : Str).length = 4 := by decide +kernel
  have l2 : ("{}|,0" : Str).length = 5 := by decide +kernel
  generalize (" !#$&'()*+,-./0123456789:;<=>?@ABCDEFGHIJKLMNOPQRSTUVWXYZ[]^_abcdefghijklmnopqrstuvwxyz{|}~" : Str) = z0 at l0 ⊢
  generalize ("\t\n\"\\" : Str) = z1 at l1 ⊢
  generalize ("{}|,0" : Str) = z2 at l2 ⊢
  refine v_addS (by rw [sizeLine_eq]; omega) ?_
  repeat kaf_suf
  refine v_mulS (mulOk_small (by omega) (by decide) (by decide)) ?_
  have l3 := mul_len z2 (n := 20) (by decide)
  have l4 : (z0 ++ z1).length = z0.length + z1.length := add_len _ _
  have l5 : ((20 : Int)).toNat = 20 := rfl
  rw [l5] at l3
  refine v_addS (by rw [sizeLine_eq]; omega) ?_
  have l6 : (z0 ++ z1 ++ Txt.mul z2 20).length = (z0 ++ z1).length + (Txt.mul z2 20).length := add_len _ _
  generalize z0 ++ z1 ++ Txt.mul z2 20 = zz at l6 ⊢
  have zl2 : zz.length ≤ 100000 := by omega
  repeat kaf_suf
  first | refine v_lenStr zl2 ?_ | skip
  repeat kaf_suf
  refine ⟨rfl, s, (zz.length : Int), rfl, St, by omega, wd_small (by omega), fun H1 u k1 St1 u0 u1 => ?_⟩
  have zl : zz.cps.toList.length = zz.length := Array.length_toList
  have hu : u.toNat < zz.cps.toList.length := by rw [zl]; omega
  have hx : atI zz.cps.toList u = some (zz.cps.toList[u.toNat]'hu) := by
    unfold atI ixN
    rw [if_pos u0, if_pos (by rw [zl]; exact u1)]
    exact List.getElem?_eq_getElem hu
  refine v_ixS hx (by omega) ?_
  exact k _ _ k1 St1 (Nat.le_refl _)
theorem cal_law_sign {c : Cn} {mg : Str → Option Value} {base : Heap} (T : Txt c mg) : Cal c.P c.w c.K mg base CX0 4 "_law_sign" (sp_law_sign c) := by
  obtain ⟨f, fd, F, g, b⟩ := T.F_law_sign
  exact ⟨f, fd, ["store"], F.ok (k := 3) (N := N_law_sign) sc_law_sign (fun vs H Q E h => h.1) (fun cdv A outer s H vs Q E hr h => ⟨t_law_sign c, by
  exact (pss_cons (ps_set (i := 1) sc_law_sign.nd rfl (Or.inl rfl) pe_str)
  (pss_cons (ps_set (i := 1) sc_law_sign.nd rfl (Or.inl rfl) (pe_op o_add (pe_op o_add (pv 1) pe_str) (pe_op o_mulS pe_str pe_int)))
  (pss_one (ps_ret (pe_ix (x_ix (hu64 hr)) (pv 1) (e_call (cal_law_take T) hr (by decide) pass0 rfl (pa_cons (pv 0) (pa_cons (pe_callB k_len (by rfl) T.n_len (by decide +kernel) (pa_cons (pv 1) pa_nil)) pa_nil))) (fun _ _ => rfl)))))), p_law_sign T h⟩), g, F.kp, b⟩
abbrev N_law_within : List Str := ["store", "text", "many", "k", "way"]
theorem sc_law_within : FnScope N_law_within ["store", "text", "many"] (defScope s_law_within) := ⟨rfl, rfl, rfl, by decide +kernel, rfl, by decide +kernel, by decide +kernel⟩
def t_law_within (c : Cn) : TS :=
  (tSeq (tFor (iRng1 (tCons (tVar 2) tNil)) (gName 3)
  (tSeq (tAsg (tCall (sp_law_take c) [] E0 (tCons (tVar 0) (tCons (tC (.int 4)) tNil))) (gName 4))
  (tAsg (tOp (bAdd c.K) (tOp (bAdd c.K) (tOp (bIx c.P c.w c.K) (tLst (tCons (tC (.str "{")) (tCons (tC (.str "{|")) (tCons (tC (.str "{0,")) (tCons (tC (.str "{0|")) tNil))))) (tVar 4)) (tVar 1)) (tOp (bIx c.P c.w c.K) (tLst (tCons (tC (.str "|}")) (tCons (tC (.str "}")) tNil))) (tOp bMod (tVar 4) (tC (.int 2))))) (gName 1))))
  (tRet (tVar 1)))
def sp_law_within (c : Cn) : Sp := fun vs H Q E => vs.length = 3 ∧ ∃ (s : Addr) (z : Str) (m : Int), vs = [.ref s, .str z, .int m] ∧ StA H s ∧ z.length ≤ 6900 ∧ 0 ≤ m ∧ m ≤ 16 ∧ ∀ (H' : Hp) (y : Str), Keep (fun x => x = s) H H' → StA H' s → y.length ≤ z.length + 5 * m.toNat → Q (.str y) H'
theorem p_law_within {c : Cn} {mg : Str → Option Value} (T : Txt c mg) {vs : List V} {H : Hp} {Q : VK} {E : XK} (h : sp_law_within c vs H Q E) : t_law_within c { nx := fun _ H' => Q .non H', rt := Q } (start N_law_within vs) H := by
  obtain ⟨_, s, z, m, rfl, St, zl, m0, m1, k⟩ := h
  unfold t_law_within
  repeat kaf_suf
  refine for_range (lo := 0) (n := m.toNat) (fun j σ H' => ∃ (x3 x4 : Option V) (y : Str), σ = [some (.ref s), some (.str y), some (.int m), x3, x4] ∧ Keep (fun x => x = s) H H' ∧ StA H' s ∧ y.length ≤ z.length + 5 * j) ⟨_, _, z, rfl, Keep.refl, St, by omega⟩ ?_ ?_
  rotate_left
  · rintro σ H1 ⟨x3, x4, y, rfl, k1, St1, yl⟩
    repeat kaf_suf
    exact k _ y k1 St1 yl
  rintro j σ H1 hj ⟨x3, x4, y, rfl, k1, St1, yl⟩
  repeat kaf_suf
  refine ⟨rfl, s, 4, rfl, St1, by decide, wd_small (by decide), fun H2 u k2 St2 u0 u1 => ?_⟩
  repeat kaf_suf
  intro l1 hl1
  have St3 := St2.keep (Keep.alloc (o := .lst [.str "{", .str "{|", .str "{0,", .str "{0|"]) hl1)
  have k3 : Keep (fun x => x = s) H1 (upd H2 l1 (.lst [.str "{", .str "{|", .str "{0,", .str "{0|"])) := k2.trans (Keep.alloc hl1)
  have e3 : (upd H2 l1 (.lst [.str "{", .str "{|", .str "{0,", .str "{0|"])) l1 = some (.lst [.str "{", .str "{|", .str "{0,", .str "{0|"]) := upd_same
  generalize upd H2 l1 (.lst [.str "{", .str "{|", .str "{0,", .str "{0|"]) = H3 at St3 k3 e3 ⊢
  obtain ⟨_, ha, s1, rfl, l1'⟩ := atI_any (P := ShS 3) (xs := [.str "{", .str "{|", .str "{0,", .str "{0|"]) u0 u1 (.cons (by decide +kernel) (.cons (by decide +kernel) (.cons (by decide +kernel) (.cons (by decide +kernel) .nil))))
  repeat kaf_suf
  refine v_addS (by rw [sizeLine_eq]; omega) ?_
  repeat kaf_suf
  intro l2 hl2
  have St4 := St3.keep (Keep.alloc (o := .lst [.str "|}", .str "}"]) hl2)
  have k4 : Keep (fun x => x = s) H1 (upd H3 l2 (.lst [.str "|}", .str "}"])) := k3.trans (Keep.alloc hl2)
  have e4 : (upd H3 l2 (.lst [.str "|}", .str "}"])) l2 = some (.lst [.str "|}", .str "}"]) := upd_same
  generalize upd H3 l2 (.lst [.str "|}", .str "}"]) = H4 at St4 k4 e4 ⊢
  have um : u % 2 < 2 := Int.emod_lt_of_pos _ (by decide)
  obtain ⟨_, hb, s2, rfl, l2'⟩ := atI_any (P := ShS 2) (xs := [.str "|}", .str "}"]) (Int.emod_nonneg u (by decide : (2 : Int) ≠ 0)) um (.cons (by decide +kernel) (.cons (by decide +kernel) .nil))
  repeat kaf_suf
  refine v_addS (by rw [sizeLine_eq, add_len]; omega) ?_
  repeat kaf_suf
  exact ⟨_, _, s1 ++ y ++ s2, rfl, k1.trans k4, St4, by rw [add_len, add_len]; omega⟩
theorem cal_law_within {c : Cn} {mg : Str → Option Value} {base : Heap} (T : Txt c mg) : Cal c.P c.w c.K mg base CX0 4 "_law_within" (sp_law_within c) := by
  obtain ⟨f, fd, F, g, b⟩ := T.F_law_within
  exact ⟨f, fd, ["store", "text", "many"], F.ok (k := 3) (N := N_law_within) sc_law_within (fun vs H Q E h => h.1) (fun cdv A outer s H vs Q E hr h => ⟨t_law_within c, by
  exact (pss_cons (ps_for PassesOwn.never rfl (pi_range1 rfl T.n_range (pa_cons (pv 2) pa_nil)) (pg_name (i := 3) sc_law_within.nd rfl (Or.inl rfl))
  (pss_cons (ps_set (i := 4) sc_law_within.nd rfl (Or.inl rfl) (e_call (cal_law_take T) hr (by decide) pass0 rfl (pa_cons (pv 0) (pa_cons pe_int pa_nil))))
  (pss_one (ps_set (i := 1) sc_law_within.nd rfl (Or.inl rfl) (pe_op o_add (pe_op o_add (pe_ix (x_ix (hu64 hr)) (pe_lst (pa_cons pe_str (pa_cons pe_str (pa_cons pe_str (pa_cons pe_str pa_nil))))) (pv 4) (fun _ _ => rfl)) (pv 1)) (pe_ix (x_ix (hu64 hr)) (pe_lst (pa_cons pe_str (pa_cons pe_str pa_nil))) (pe_op o_mod (pv 4) pe_int) (fun _ _ => rfl)))))))
  (pss_one (ps_ret (pv 1)))), p_law_within T h⟩), g, F.kp, b⟩
abbrev N_law_odd : List Str := ["at", "some"]
theorem sc_law_odd : FnScope N_law_odd ["at"] (defScope s_law_odd) := ⟨rfl, rfl, rfl, by decide +kernel, rfl, by decide +kernel, by decide +kernel⟩
def t_law_odd (c : Cn) : TS :=
  (tSeq (tAsg (tLst (tCons (tC (.str "")) (tCons (tC (.str " ")) (tCons (tC (.str "{")) (tCons (tC (.str "}")) (tCons (tC (.str "{|}")) (tCons (tC (.str "{}")) (tCons (tC (.str "{0}")) (tCons (tC (.str "{0|")) (tCons (tC (.str "{0|}}")) (tCons (tC (.str "{0|0")) (tCons (tC (.str "{,0|}")) (tCons (tC (.str "{0,|}")) (tCons (tC (.str "{0,0|}")) (tCons (tC (.str "{|0,0}")) (tCons (tC (.str "00")) tNil)))))))))))))))) (gName 1))
  (tSeq (tAsg (tOp (bAdd c.K) (tVar 1) (tLst (tCons (tC (.str "{0|0|0}")) (tCons (tC (.str "{{0|},0|}")) (tCons (tC (.str "{0,{0|}|}")) (tCons (tC (.str "{0 |}")) (tCons (tC (.str " {0|}")) (tCons (tC (.str "{0|}\n")) (tCons (tC (.str "1")) (tCons (tC (.str "*")) (tCons (tC (.str "{1|}")) (tCons (tC (.str "{0|*}")) (tCons (tC (.str "0,0")) tNil))))))))))))) (gName 1))
  (tRet (tOp (bIx c.P c.w c.K) (tOp (bAdd c.K) (tVar 1) (tLst (tCons (tC (.str "{0||}")) (tCons (tC (.str "{{|0},{0|}|}")) (tCons (tC (.str "{{0|},{|0}|}")) (tCons (tC (.str "(0|0)")) (tCons (tOp (bAdd c.K) (tOp (bAdd c.K) (tOp bMulS (tC (.str "{")) (tC (.int 13))) (tC (.str "0"))) (tOp bMulS (tC (.str "|}")) (tC (.int 13)))) tNil))))))) (tVar 0)))))
def sp_law_odd (c : Cn) : Sp := fun vs H Q E => vs.length = 1 ∧ ∃ (u : Int), vs = [.int u] ∧ 0 ≤ u ∧ u < 31 ∧ ∀ (H' : Hp) (z : Str), Keep Nil H H' → z.length ≤ 50 → Q (.str z) H'
theorem p_law_odd {c : Cn} {mg : Str → Option Value} (T : Txt c mg) {vs : List V} {H : Hp} {Q : VK} {E : XK} (h : sp_law_odd c vs H Q E) : t_law_odd c { nx := fun _ H' => Q .non H', rt := Q } (start N_law_odd vs) H := by
  obtain ⟨_, u, rfl, u0, u1, k⟩ := h
  unfold t_law_odd
  repeat kaf_suf
  intro p1 hp1
  have a1 : ∀ x ∈ [V.str "", .str " ", .str "{", .str "}", .str "{|}", .str "{}", .str "{0}", .str "{0|", .str "{0|}}", .str "{0|0", .str "{,0|}", .str "{0,|}", .str "{0,0|}", .str "{|0,0}", .str "00"], ShS 50 x := by
    repeat (first | exact ShS.nil | refine ShS.cons (by decide +kernel) ?_)
  have e1 : (upd H p1 (.lst [V.str "", .str " ", .str "{", .str "}", .str "{|}", .str "{}", .str "{0}", .str "{0|", .str "{0|}}", .str "{0|0", .str "{,0|}", .str "{0,|}", .str "{0,0|}", .str "{|0,0}", .str "00"])) p1 = some (.lst _) := upd_same
  have k1 : Keep Nil H (upd H p1 (.lst [V.str "", .str " ", .str "{", .str "}", .str "{|}", .str "{}", .str "{0}", .str "{0|", .str "{0|}}", .str "{0|0", .str "{,0|}", .str "{0,|}", .str "{0,0|}", .str "{|0,0}", .str "00"])) := Keep.alloc hp1
  have n1 : [V.str "", .str " ", .str "{", .str "}", .str "{|}", .str "{}", .str "{0}", .str "{0|", .str "{0|}}", .str "{0|0", .str "{,0|}", .str "{0,|}", .str "{0,0|}", .str "{|0,0}", .str "00"].length = 15 := rfl
  generalize [V.str "", .str " ", .str "{", .str "}", .str "{|}", .str "{}", .str "{0}", .str "{0|", .str "{0|}}", .str "{0|0", .str "{,0|}", .str "{0,|}", .str "{0,0|}", .str "{|0,0}", .str "00"] = xs at a1 e1 k1 n1 ⊢
  generalize upd H p1 (.lst xs) = H1 at e1 k1 ⊢
  clear hp1
  repeat kaf_suf
  intro p2 hp2
  have a2 : ∀ x ∈ [V.str "{0|0|0}", .str "{{0|},0|}", .str "{0,{0|}|}", .str "{0 |}", .str " {0|}", .str "{0|}\n", .str "1", .str "*", .str "{1|}", .str "{0|*}", .str "0,0"], ShS 50 x := by
    repeat (first | exact ShS.nil | refine ShS.cons (by decide +kernel) ?_)
  have n2 : [V.str "{0|0|0}", .str "{{0|},0|}", .str "{0,{0|}|}", .str "{0 |}", .str " {0|}", .str "{0|}\n", .str "1", .str "*", .str "{1|}", .str "{0|*}", .str "0,0"].length = 11 := rfl
  generalize [V.str "{0|0|0}", .str "{{0|},0|}", .str "{0,{0|}|}", .str "{0 |}", .str " {0|}", .str "{0|}\n", .str "1", .str "*", .str "{1|}", .str "{0|*}", .str "0,0"] = ys at a2 n2 ⊢
  have e1' := get_new (u := .lst ys) hp2 e1
  have e2 : (upd H1 p2 (.lst ys)) p2 = some (.lst ys) := upd_same
  have k2 : Keep Nil H (upd H1 p2 (.lst ys)) := k1.new hp2
  generalize upd H1 p2 (.lst ys) = H2 at e1' e2 k2 ⊢
  refine v_addL e1' e2 (few2 (by omega)) fun p3 hp3 => ?_
  have a3 : ∀ x ∈ xs ++ ys, ShS 50 x := fun x hx => (List.mem_append.mp hx).elim (a1 x) (a2 x)
  have n3 : (xs ++ ys).length = 26 := by rw [List.length_append, n1, n2]
  generalize xs ++ ys = zs at a3 n3 ⊢
  have e3 : (upd H2 p3 (.lst zs)) p3 = some (.lst zs) := upd_same
  have k3 : Keep Nil H (upd H2 p3 (.lst zs)) := k2.new hp3
  generalize upd H2 p3 (.lst zs) = H3 at e3 k3 ⊢
  repeat kaf_suf
  have l1 : ("{" : Str).length = 1 := by decide +kernel
  have l2 : ("|}" : Str).length = 2 := by decide +kernel
  have l3 : ("0" : Str).length = 1 := by decide +kernel
  have m1 := mul_len ("{" : Str) (n := 13) (by decide)
  have m2 := mul_len ("|}" : Str) (n := 13) (by decide)
  have t13 : ((13 : Int)).toNat = 13 := rfl
  rw [t13, l1] at m1
  rw [t13, l2] at m2
  refine v_mulS (mulOk_small (by omega) (by decide) (by decide)) ?_
  generalize Txt.mul "{" 13 = q1 at m1 ⊢
  refine v_addS (by rw [sizeLine_eq]; omega) ?_
  repeat kaf_suf
  refine v_mulS (mulOk_small (by omega) (by decide) (by decide)) ?_
  generalize Txt.mul "|}" 13 = q2 at m2 ⊢
  refine v_addS (by rw [sizeLine_eq, add_len]; omega) ?_
  have l4 : (q1 ++ "0" ++ q2).length ≤ 50 := by rw [add_len, add_len]; omega
  generalize q1 ++ "0" ++ q2 = q at l4 ⊢
  repeat kaf_suf
  intro p4 hp4
  have a4 : ∀ x ∈ [V.str "{0||}", .str "{{|0},{0|}|}", .str "{{0|},{|0}|}", .str "(0|0)", .str q], ShS 50 x := by
    refine ShS.cons (by decide +kernel) (ShS.cons (by decide +kernel) (ShS.cons (by decide +kernel) (ShS.cons (by decide +kernel) (ShS.cons l4 ShS.nil))))
  have n4 : [V.str "{0||}", .str "{{|0},{0|}|}", .str "{{0|},{|0}|}", .str "(0|0)", .str q].length = 5 := rfl
  generalize [V.str "{0||}", .str "{{|0},{0|}|}", .str "{{0|},{|0}|}", .str "(0|0)", .str q] = ws at a4 n4 ⊢
  have e3' := get_new (u := .lst ws) hp4 e3
  have e4 : (upd H3 p4 (.lst ws)) p4 = some (.lst ws) := upd_same
  have k4 : Keep Nil H (upd H3 p4 (.lst ws)) := k3.new hp4
  generalize upd H3 p4 (.lst ws) = H4 at e3' e4 k4 ⊢
  refine v_addL e3' e4 (few2 (by omega)) fun p5 hp5 => ?_
  have a5 : ∀ x ∈ zs ++ ws, ShS 50 x := fun x hx => (List.mem_append.mp hx).elim (a3 x) (a4 x)
  obtain ⟨_, hx, s, rfl, sl⟩ := atI_any u0 (show u < ((zs ++ ws).length : Int) by rw [List.length_append, n3, n4]; omega) a5
  repeat kaf_suf
  exact k _ s (k4.new hp5) sl
theorem cal_law_odd {c : Cn} {mg : Str → Option Value} {base : Heap} (T : Txt c mg) : Cal c.P c.w c.K mg base CX0 1 "_law_odd" (sp_law_odd c) := by
  obtain ⟨f, fd, F, g, b⟩ := T.F_law_odd
  exact ⟨f, fd, ["at"], F.ok (k := 0) (N := N_law_odd) sc_law_odd (fun vs H Q E h => h.1) (fun cdv A outer s H vs Q E hr h => ⟨t_law_odd c, by
  exact (pss_cons (ps_set (i := 1) sc_law_odd.nd rfl (Or.inl rfl) (pe_lst (pa_cons pe_str (pa_cons pe_str (pa_cons pe_str (pa_cons pe_str (pa_cons pe_str (pa_cons pe_str (pa_cons pe_str (pa_cons pe_str (pa_cons pe_str (pa_cons pe_str (pa_cons pe_str (pa_cons pe_str (pa_cons pe_str (pa_cons pe_str (pa_cons pe_str pa_nil)))))))))))))))))
  (pss_cons (ps_set (i := 1) sc_law_odd.nd rfl (Or.inl rfl) (pe_op o_add (pv 1) (pe_lst (pa_cons pe_str (pa_cons pe_str (pa_cons pe_str (pa_cons pe_str (pa_cons pe_str (pa_cons pe_str (pa_cons pe_str (pa_cons pe_str (pa_cons pe_str (pa_cons pe_str (pa_cons pe_str pa_nil))))))))))))))
  (pss_one (ps_ret (pe_ix (x_ix (hu64 hr)) (pe_op o_add (pv 1) (pe_lst (pa_cons pe_str (pa_cons pe_str (pa_cons pe_str (pa_cons pe_str (pa_cons (pe_op o_add (pe_op o_add (pe_op o_mulS pe_str pe_int) pe_str) (pe_op o_mulS pe_str pe_int)) pa_nil))))))) (pv 0) (fun _ _ => rfl)))))), p_law_odd T h⟩), g, F.kp, b⟩
abbrev N_law_spoilt : List Str := ["store", "text", "kind", "at", "sign"]
theorem sc_law_spoilt : FnScope N_law_spoilt ["store", "text"] (defScope s_law_spoilt) := ⟨rfl, rfl, rfl, by decide +kernel, rfl, by decide +kernel, by decide +kernel⟩
def t_law_spoilt (c : Cn) : TS :=
  (tSeq (tAsg (tCall (sp_law_take c) [] E0 (tCons (tVar 0) (tCons (tC (.int 5)) tNil))) (gName 2))
  (tSeq (tAsg (tCall (sp_law_take c) [] E0 (tCons (tVar 0) (tCons (tOp (bAdd c.K) (tCB (kLen c.K) (tCons (tVar 1) tNil)) (tC (.int 1))) tNil))) (gName 3))
  (tSeq (tAsg (tCall (sp_law_sign c) [] E0 (tCons (tVar 0) tNil)) (gName 4))
  (tSeq (tIfS (tTest (tOp (cEq c.K) (tVar 2) (tC (.int 0))))
  (tRet (tOp (bAdd c.K) (tSl rSlS (tVar 1) tNoPart (tPart (tVar 3))) (tSl rSlS (tVar 1) (tPart (tOp (bAdd c.K) (tVar 3) (tC (.int 1)))) tNoPart)))
  tNext)
  (tSeq (tIfS (tTest (tOp (cEq c.K) (tVar 2) (tC (.int 1))))
  (tRet (tOp (bAdd c.K) (tOp (bAdd c.K) (tSl rSlS (tVar 1) tNoPart (tPart (tVar 3))) (tVar 4)) (tSl rSlS (tVar 1) (tPart (tVar 3)) tNoPart)))
  tNext)
  (tSeq (tIfS (tTest (tOp (cEq c.K) (tVar 2) (tC (.int 2))))
  (tRet (tOp (bAdd c.K) (tOp (bAdd c.K) (tSl rSlS (tVar 1) tNoPart (tPart (tVar 3))) (tVar 4)) (tSl rSlS (tVar 1) (tPart (tOp (bAdd c.K) (tVar 3) (tC (.int 1)))) tNoPart)))
  tNext)
  (tSeq (tIfS (tTest (tOp (cEq c.K) (tVar 2) (tC (.int 3))))
  (tRet (tSl rSlS (tVar 1) tNoPart (tPart (tVar 3))))
  tNext)
  (tRet (tOp (bAdd c.K) (tVar 1) (tSl rSlS (tVar 1) (tPart (tVar 3)) tNoPart))))))))))
def sp_law_spoilt (c : Cn) : Sp := fun vs H Q E => vs.length = 2 ∧ ∃ (s : Addr) (z : Str), vs = [.ref s, .str z] ∧ StA H s ∧ z.length ≤ 3300 ∧ ∀ (H' : Hp) (y : Str), Keep (fun x => x = s) H H' → StA H' s → y.length ≤ 6700 → Q (.str y) H'
theorem p_law_spoilt {c : Cn} {mg : Str → Option Value} (T : Txt c mg) {vs : List V} {H : Hp} {Q : VK} {E : XK} (h : sp_law_spoilt c vs H Q E) : t_law_spoilt c { nx := fun _ H' => Q .non H', rt := Q } (start N_law_spoilt vs) H := by
  obtain ⟨_, s, z, rfl, St, zl, k⟩ := h
  have zl1 : z.length ≤ 100000 := by omega
  unfold t_law_spoilt
  repeat kaf_suf
  refine ⟨rfl, s, 5, rfl, St, by decide, wd_small (by decide), fun H1 u k1 St1 u0 u1 => ?_⟩
  repeat kaf_suf
  first | refine v_lenStr zl1 ?_ | skip
  repeat kaf_suf
  refine ⟨rfl, s, (z.length : Int) + 1, rfl, St1, by omega, Nat.lt_of_lt_of_le (show ((z.length : Int) + 1).natAbs < 2 ^ 12 by omega) (Nat.pow_le_pow_right (by decide) (by decide)), fun H2 v k2 St2 v0 v1 => ?_⟩
  repeat kaf_suf
  refine ⟨rfl, s, rfl, St2, fun H3 y k3 St3 yl => ?_⟩
  have kk := (k1.trans k2).trans k3
  have cl : ∀ lo hi, (cutS z lo hi).length ≤ 3300 := fun lo hi => Nat.le_trans (cutS_length z lo hi) zl
  repeat kaf_suf
  refine r_ite (fun _ => ?_) (fun _ => ?_)
  · repeat kaf_suf
    refine v_slS zl1 ?_
    repeat kaf_suf
    refine v_slS zl1 ?_
    have c1 := cl none (some v)
    have c2 := cl (some (v + 1)) none
    refine v_addS (by rw [sizeLine_eq]; omega) ?_
    exact k _ _ kk St3 (by rw [add_len]; omega)
  repeat kaf_suf
  refine r_ite (fun _ => ?_) (fun _ => ?_)
  · repeat kaf_suf
    refine v_slS zl1 ?_
    have c1 := cl none (some v)
    have c2 := cl (some v) none
    repeat kaf_suf
    refine v_addS (by rw [sizeLine_eq]; omega) ?_
    repeat kaf_suf
    refine v_slS zl1 ?_
    refine v_addS (by rw [sizeLine_eq, add_len]; omega) ?_
    exact k _ _ kk St3 (by rw [add_len, add_len]; omega)
  repeat kaf_suf
  refine r_ite (fun _ => ?_) (fun _ => ?_)
  · repeat kaf_suf
    refine v_slS zl1 ?_
    have c1 := cl none (some v)
    have c2 := cl (some (v + 1)) none
    repeat kaf_suf
    refine v_addS (by rw [sizeLine_eq]; omega) ?_
    repeat kaf_suf
    refine v_slS zl1 ?_
    refine v_addS (by rw [sizeLine_eq, add_len]; omega) ?_
    exact k _ _ kk St3 (by rw [add_len, add_len]; omega)
  repeat kaf_suf
  refine r_ite (fun _ => ?_) (fun _ => ?_)
  · repeat kaf_suf
    refine v_slS zl1 ?_
    exact k _ _ kk St3 (by have := cl none (some v); omega)
  repeat kaf_suf
  refine v_slS zl1 ?_
  have c2 := cl (some v) none
  refine v_addS (by rw [sizeLine_eq]; omega) ?_
  exact k _ _ kk St3 (by rw [add_len]; omega)
theorem cal_law_spoilt {c : Cn} {mg : Str → Option Value} {base : Heap} (T : Txt c mg) : Cal c.P c.w c.K mg base CX0 5 "_law_spoilt" (sp_law_spoilt c) := by
  obtain ⟨f, fd, F, g, b⟩ := T.F_law_spoilt
  exact ⟨f, fd, ["store", "text"], F.ok (k := 4) (N := N_law_spoilt) sc_law_spoilt (fun vs H Q E h => h.1) (fun cdv A outer s H vs Q E hr h => ⟨t_law_spoilt c, by
  exact (pss_cons (ps_set (i := 2) sc_law_spoilt.nd rfl (Or.inl rfl) (e_call (cal_law_take T) hr (by decide) pass0 rfl (pa_cons (pv 0) (pa_cons pe_int pa_nil))))
  (pss_cons (ps_set (i := 3) sc_law_spoilt.nd rfl (Or.inl rfl) (e_call (cal_law_take T) hr (by decide) pass0 rfl (pa_cons (pv 0) (pa_cons (pe_op o_add (pe_callB k_len (by rfl) T.n_len (by decide +kernel) (pa_cons (pv 1) pa_nil)) pe_int) pa_nil))))
  (pss_cons (ps_set (i := 4) sc_law_spoilt.nd rfl (Or.inl rfl) (e_call (cal_law_sign T) hr (by decide) pass0 rfl (pa_cons (pv 0) pa_nil)))
  (pss_cons (ps_if (pt_cmpR (o_eq (hu64 hr)) (pv 2) pe_int (nomark _)) (pss_one (ps_ret (pe_op o_add (pe_slice sl_str (pv 1) po_none (po_some (pv 3))) (pe_slice sl_str (pv 1) (po_some (pe_op o_add (pv 3) pe_int)) po_none)))) pss_nil)
  (pss_cons (ps_if (pt_cmpR (o_eq (hu64 hr)) (pv 2) pe_int (nomark _)) (pss_one (ps_ret (pe_op o_add (pe_op o_add (pe_slice sl_str (pv 1) po_none (po_some (pv 3))) (pv 4)) (pe_slice sl_str (pv 1) (po_some (pv 3)) po_none)))) pss_nil)
  (pss_cons (ps_if (pt_cmpR (o_eq (hu64 hr)) (pv 2) pe_int (nomark _)) (pss_one (ps_ret (pe_op o_add (pe_op o_add (pe_slice sl_str (pv 1) po_none (po_some (pv 3))) (pv 4)) (pe_slice sl_str (pv 1) (po_some (pe_op o_add (pv 3) pe_int)) po_none)))) pss_nil)
  (pss_cons (ps_if (pt_cmpR (o_eq (hu64 hr)) (pv 2) pe_int (nomark _)) (pss_one (ps_ret (pe_slice sl_str (pv 1) po_none (po_some (pv 3))))) pss_nil)
  (pss_one (ps_ret (pe_op o_add (pv 1) (pe_slice sl_str (pv 1) (po_some (pv 3)) po_none))))))))))), p_law_spoilt T h⟩), g, F.kp, b⟩

/-! a text with its moves changed -/
theorem cutV_take (xs : List V) (k : Nat) : cutV xs none (some (k : Int)) = xs.take k := by
  unfold cutV
  rw [HT.sIx_nat, HT.sIx_none, List.drop_zero, Nat.sub_zero]
  by_cases c : k ≤ xs.length
  · rw [Nat.min_eq_left c]
  · rw [Nat.min_eq_right (by omega), List.take_of_length_le (Nat.le_refl _), List.take_of_length_le (by omega)]
theorem cutV_drop (xs : List V) (k : Nat) : cutV xs (some (k : Int)) none = xs.drop k := by
  unfold cutV
  rw [HT.sIx_nat, HT.sIx_none]
  by_cases c : k ≤ xs.length
  · rw [Nat.min_eq_left c, List.take_of_length_le (by rw [List.length_drop]; omega)]
  · rw [Nat.min_eq_right (by omega), Nat.sub_self, List.take_zero, List.drop_of_length_le (by omega)]
theorem cutV_mid (xs : List V) (i k : Nat) : cutV xs (some (i : Int)) (some ((i + k : Nat) : Int)) = (xs.drop i).take k := by
  unfold cutV
  rw [HT.sIx_nat, HT.sIx_nat]
  by_cases c : i ≤ xs.length
  · rw [Nat.min_eq_left c]
    by_cases d : i + k ≤ xs.length
    · rw [Nat.min_eq_left d, Nat.add_sub_cancel_left]
    · rw [Nat.min_eq_right (by omega), List.take_of_length_le (by rw [List.length_drop]; omega), List.take_of_length_le (by rw [List.length_drop]; omega)]
  · rw [Nat.min_eq_right (by omega), Nat.min_eq_right (by omega), List.drop_of_length_le (Nat.le_refl _), List.drop_of_length_le (l := xs) (i := i) (by omega), List.take_nil, List.take_nil]
def sL (X : List Tx) : Nat := (X.map (·.length + 1)).sum
theorem sL_app (X Y : List Tx) : sL (X ++ Y) = sL X + sL Y := by unfold sL; rw [List.map_append, List.sum_append]
theorem sL_cut (X : List Tx) (i : Nat) : sL (X.take i) + sL (X.drop i) = sL X := by rw [← sL_app, List.take_append_drop]
theorem sL_mid (X : List Tx) (i : Nat) : sL ((X.drop i).take 1) + sL (X.drop (i + 1)) = sL (X.drop i) := by
  rw [← sL_cut (X.drop i) 1, List.drop_drop]
def lT (X : List Tx) : List V := X.map fun x => V.str (tS x)
theorem lT_take (X : List Tx) (k : Nat) : cutV (lT X) none (some (k : Int)) = lT (X.take k) := by rw [cutV_take]; unfold lT; rw [List.map_take]
theorem lT_drop (X : List Tx) (k : Nat) : cutV (lT X) (some (k : Int)) none = lT (X.drop k) := by rw [cutV_drop]; unfold lT; rw [List.map_drop]
theorem lT_mid (X : List Tx) (i k : Nat) : cutV (lT X) (some (i : Int)) (some ((i + k : Nat) : Int)) = lT ((X.drop i).take k) := by rw [cutV_mid]; unfold lT; rw [List.map_take, List.map_drop]
theorem lT_app (X Y : List Tx) : lT X ++ lT Y = lT (X ++ Y) := by unfold lT; rw [List.map_append]
theorem sL_len (X : List Tx) : X.length ≤ sL X := sum_len
abbrev N_law_turned : List Str := ["store", "table", "texts", "at", "sides", "turn", "some", "to", "way", "rest", "moves", "move"]
theorem sc_law_turned : FnScope N_law_turned ["store", "table", "texts"] (defScope s_law_turned) := ⟨rfl, rfl, rfl, by decide +kernel, rfl, by decide +kernel, by decide +kernel⟩
def t_law_turned (c : Cn) : TS :=
  (tSeq (tAsg (tOp bSub (tOp bSub (tCB (kLen c.K) (tCons (tVar 1) tNil)) (tC (.int 1))) (tCall (sp_law_take c) [] E0 (tCons (tVar 0) (tCons (tCB (kLen c.K) (tCons (tVar 1) tNil)) tNil)))) (gName 3))
  (tSeq (tAsg (tLc (iAny c.K (tOp (bIx c.P c.w c.K) (tVar 1) (tVar 3))) (gName 10) tYes (tCall (sp_law_unlike c) [] E0 (tCons (tLc (iAny c.K (tVar 10)) (gName 11) tYes (tOp (bIx c.P c.w c.K) (tVar 2) (tVar 11)) [11]) tNil)) [10]) (gName 4))
  (tSeq (tAsg (tCall (sp_law_take c) [] E0 (tCons (tVar 0) (tCons (tC (.int 2)) tNil))) (gName 5))
  (tSeq (tAsg (tOp (bIx c.P c.w c.K) (tVar 4) (tVar 5)) (gName 6))
  (tSeq (tAsg (tCall (sp_law_take c) [] E0 (tCons (tVar 0) (tCons (tOp (bAdd c.K) (tCB (kLen c.K) (tCons (tVar 6) tNil)) (tC (.int 1))) tNil))) (gName 7))
  (tSeq (tAsg (tCall (sp_law_take c) [] E0 (tCons (tVar 0) (tCons (tC (.int 3)) tNil))) (gName 8))
  (C8.tCut (tIfS (tTest (tOp (cEq c.K) (tVar 8) (tC (.int 0))))
  (tSeq (tAsg (tOp (bAdd c.K) (tSl (bSl c.K) (tVar 6) (tPart (tVar 7)) (tPart (tOp (bAdd c.K) (tVar 7) (tC (.int 1))))) (tSl (bSl c.K) (tVar 6) (tPart (tOp (bAdd c.K) (tVar 7) (tC (.int 2)))) tNoPart)) (gName 9))
  (tAsg (tOp (bAdd c.K) (tOp (bAdd c.K) (tSl (bSl c.K) (tVar 6) tNoPart (tPart (tVar 7))) (tSl (bSl c.K) (tVar 6) (tPart (tOp (bAdd c.K) (tVar 7) (tC (.int 1)))) (tPart (tOp (bAdd c.K) (tVar 7) (tC (.int 2)))))) (tVar 9)) (gName 6)))
  tNext)
  (C8.tCut (tIfS (tTest (tOp (cEq c.K) (tVar 8) (tC (.int 1))))
  (tAsg (tOp (bAdd c.K) (tOp (bAdd c.K) (tSl (bSl c.K) (tVar 6) tNoPart (tPart (tVar 7))) (tSl (bSl c.K) (tVar 6) (tPart (tVar 7)) (tPart (tOp (bAdd c.K) (tVar 7) (tC (.int 1)))))) (tSl (bSl c.K) (tVar 6) (tPart (tVar 7)) tNoPart)) (gName 6))
  tNext)
  (C8.tCut (tIfS (tTest (tOp (cEq c.K) (tVar 8) (tC (.int 2))))
  (tAsg (tOp (bAdd c.K) (tSl (bSl c.K) (tVar 6) tNoPart (tPart (tVar 7))) (tSl (bSl c.K) (tVar 6) (tPart (tOp (bAdd c.K) (tVar 7) (tC (.int 1)))) tNoPart)) (gName 6))
  tNext)
  (tSeq (tAsg (tVar 6) (gSub (tVar 4) (tVar 5) (bSet c.P c.w)))
  (tRet (tOp (bAdd c.K) (tOp (bAdd c.K) (tOp (bAdd c.K) (tOp (bAdd c.K) (tC (.str "{")) (tBM c.K "str" (rJoin c.K) (tC (.str ",")) (tCons (tOp (bIx c.P c.w c.K) (tVar 4) (tC (.int 0))) tNil))) (tC (.str "|"))) (tBM c.K "str" (rJoin c.K) (tC (.str ",")) (tCons (tOp (bIx c.P c.w c.K) (tVar 4) (tC (.int 1))) tNil))) (tC (.str "}"))))))))))))))
def sp_law_turned (c : Cn) : Sp := fun vs H Q E => vs.length = 3 ∧ ∃ (s t q : Addr) (tb : List Gm) (ts : List Tx), vs = [.ref s, .ref t, .ref q] ∧ StA H s ∧ RowsAt (fun x => x = s) H t tb ∧ t ≠ s ∧ q ≠ s ∧ H q = some (.lst (ts.map fun x => V.str (tS x))) ∧ ts.length = tb.length ∧ TabOk tb ∧ 0 < tb.length ∧
  (∀ row ∈ tb, ((row.1 ++ row.2).map fun z => (ts.getD z.toNat []).length + 1).sum ≤ 3300) ∧ ∀ (H' : Hp) (y : Str), Keep (fun x => x = s) H H' → StA H' s → y.length ≤ 6700 → Q (.str y) H'
theorem tx_lc2 {c : Cn} {mg : Str → Option Value} (T : Txt c mg) {f q : Addr} {l : List Int} {ts : List Tx} {x0 x1 x3 x4 x5 x6 x7 x8 x9 x10 x11 : Option V} {H : Hp} {Q : VK}
    (ef : H f = some (.lst (ts.map fun x => V.str (tS x)))) (eq : H q = some (.lst (l.map V.int))) (lo : ∀ z ∈ l, 0 ≤ z ∧ z < ts.length) (few : l.length ≤ 16)
    (k : ∀ (H' : Hp) (r : Addr), Keep Nil H H' → H r = none → H' r = some (.lst ((l.map fun z => ts.getD z.toNat []).map fun x => V.str (tS x))) → Q (.ref r) H') :
    kLc (Itl c.K q) (gName 11) tYes (tOp (bIx c.P c.w c.K) (tVar 2) (tVar 11)) [11] [x0, x1, some (.ref f), x3, x4, x5, x6, x7, x8, x9, x10, x11] H Q := by
  intro D0 hD
  refine lc_list (xs := l.map V.int) (fun j H' => Keep Nil H H' ∧ H' D0 = some (.lst (((l.take j).map fun z => ts.getD z.toNat []).map fun x => V.str (tS x)))) ⟨Keep.alloc hD, upd_same⟩ ?_ ?_ ?_
  · rintro j H' _ ⟨k1, _⟩
    exact SqL.of (k1.get (fun z => z) eq)
  · rintro j x H1 hj ⟨k1, eD⟩
    rw [List.getElem?_map] at hj
    obtain ⟨z, hz, rfl⟩ := Option.map_eq_some_iff.mp hj
    have hj1 := (List.getElem?_eq_some_iff.mp hz).1
    have ef1 := k1.get (fun z => z) ef
    obtain ⟨z0, z1⟩ := lo z (List.mem_of_getElem? hz)
    have hat : atI (ts.map fun x => V.str (tS x)) z = some (.str (tS (ts.getD z.toNat []))) := atI_get (n := z.toNat) (by
      rw [List.getElem?_map, List.getElem?_eq_getElem (by omega), List.getD_eq_getElem?_getD, List.getElem?_eq_getElem (by omega)]
      rfl) (by omega)
    repeat kaf_suf
    refine ⟨rfl, ?_⟩
    repeat kaf_suf
    refine ⟨_, eD, few1 (by rw [List.length_map, List.length_map, List.length_take]; omega), k1.setN hD, ?_⟩
    rw [upd_same, List.take_succ, hz]
    simp
  · rintro H' ⟨k1, eD⟩
    rw [List.length_map, List.take_length] at eD
    exact k _ D0 k1 hD eD
theorem p_law_turned {c : Cn} {mg : Str → Option Value} (T : Txt c mg) {vs : List V} {H : Hp} {Q : VK} {E : XK} (h : sp_law_turned c vs H Q E) : t_law_turned c { nx := fun _ H' => Q .non H', rt := Q } (start N_law_turned vs) H := by
  obtain ⟨_, s, t, q, tb, ts, rfl, St, R, nts, nqs, eq, tsl, tok, pos, rowS, k⟩ := h
  have tl := tok.len
  obtain ⟨ks, et, pk⟩ := R
  have kl := Paired.length pk
  have ekl : (ks.map V.ref).length = tb.length := by rw [List.length_map, kl]
  unfold t_law_turned
  repeat kaf_suf
  rw [ekl]
  refine ⟨rfl, s, (tb.length : Int), rfl, St, by omega, wd_small (by omega), fun H1 u k1 St1 u0 u1 => ?_⟩
  have et1 := k1.get nts et
  have eq1 := k1.get nqs eq
  have pk1 := paired_keep pk fun w g r => r.keep k1
  obtain ⟨row, hrow⟩ : ∃ row, tb[((tb.length : Int) - 1 - u).toNat]? = some row := ⟨_, List.getElem?_eq_getElem (by omega)⟩
  obtain ⟨w, hw, a, b, ew, ea, eb, nw, na, nb⟩ := paired_get pk1 hrow
  have hat : atI (ks.map V.ref) ((tb.length : Int) - 1 - u) = some (.ref w) := atI_get (n := ((tb.length : Int) - 1 - u).toNat) (by rw [List.getElem?_map, hw]; rfl) (by omega)
  have rs := rowS row (List.mem_of_getElem? hrow)
  obtain ⟨f1, f2⟩ := tok.few row (List.mem_of_getElem? hrow)
  have lo := tok.low _ row hrow
  clear et pk eq St
  repeat kaf_suf
  intro D hD
  have hsum : sL (canonT (row.1.map fun z => ts.getD z.toNat [])) + sL (canonT (row.2.map fun z => ts.getD z.toNat [])) ≤ 3300 := by
    have h1 := canonT_sum (l := row.1.map fun z => ts.getD z.toNat [])
    have h2 := canonT_sum (l := row.2.map fun z => ts.getD z.toNat [])
    rw [List.map_map] at h1 h2
    rw [List.map_append, List.sum_append] at rs
    unfold sL
    exact Nat.le_trans (Nat.add_le_add h1 h2) rs
  refine lc_tup (xs := [.ref a, .ref b]) (fun j H' => Keep Nil H1 H' ∧ ∃ ds : List Addr, H' D = some (.lst (ds.map V.ref)) ∧ Paired (fun d X => H' d = some (.lst (lT X)) ∧ d ≠ D) ds (([row.1, row.2].take j).map fun l => canonT (l.map fun z => ts.getD z.toNat []))) ⟨Keep.alloc hD, [], upd_same, .nil⟩ ?_ ?_ ?_
  · rintro j H' _ ⟨k2, _⟩
    exact SqT.of (k2.get (fun z => z) ew)
  · rintro j x H2 hx ⟨k2, ds, eD, pd⟩
    have hl : ∃ l e, x = .ref e ∧ H1 e = some (.lst (l.map V.int)) ∧ [row.1, row.2][j]? = some l ∧ l.length ≤ 8 ∧ (∀ z ∈ l, z ∈ row.1 ++ row.2) ∧ j < 2 := by
      have := (List.getElem?_eq_some_iff.mp hx).1
      have : j = 0 ∨ j = 1 := by simp at this; omega
      rcases this with rfl | rfl
      · injection hx with hx
        exact ⟨row.1, a, hx.symm, ea, rfl, f1, fun z hz => List.mem_append_left _ hz, by decide⟩
      · injection hx with hx
        exact ⟨row.2, b, hx.symm, eb, rfl, f2, fun z hz => List.mem_append_right _ hz, by decide⟩
    obtain ⟨l, e, rfl, el, hj, l8, lm, j2⟩ := hl
    have pdl := Paired.length pd
    rw [List.length_map, List.length_take] at pdl
    have el2 := k2.get (fun z => z) el
    have eq2 := k2.get (fun z => z) eq1
    repeat kaf_suf
    refine ⟨rfl, ?_⟩
    repeat kaf_suf
    refine tx_lc2 T eq2 el2 (fun z hz => by have := lo z (lm z hz); omega) (by omega) fun H3 r k3 hr er => ?_
    repeat kaf_suf
    refine ⟨rfl, r, _, rfl, er, by rw [List.length_map]; omega, fun H4 f k4 hf ef => ?_⟩
    have eD4 := (k3.trans k4).get (fun z => z) eD
    have nfD : f ≠ D := ne_new hf (k3.get (fun z => z) eD)
    refine ⟨_, eD4, few1 (by rw [List.length_map]; omega), ((k2.trans k3).trans k4).setN hD, ds ++ [f], by rw [List.map_append]; exact upd_same, ?_⟩
    rw [List.take_succ, hj, List.map_append]
    exact Paired.snoc (paired_keep pd fun d X ⟨h1, h2⟩ => ⟨get_set h2 ((k3.trans k4).get (fun z => z) h1), h2⟩) ⟨get_set nfD ef, nfD⟩
  rintro H2 ⟨k2, ds, eD, pd⟩
  obtain ⟨d1, d2, X1, X2, rfl, hX, ⟨e1, n1⟩, ⟨e2, n2⟩⟩ := paired_two pd rfl
  injection hX with hX1 hX
  injection hX with hX2 _
  have hX1 : canonT (row.1.map fun z => ts.getD z.toNat []) = X1 := hX1
  have hX2 : canonT (row.2.map fun z => ts.getD z.toNat []) = X2 := hX2
  rw [hX1, hX2] at hsum
  have k02 : Keep (fun x => x = s) H H2 := k1.trans k2.weak
  have St2 := St1.keep k2
  have vs3 : ∀ {H' : Hp} {g : Addr} {Z : List Tx}, StA H' s → H' g = some (.lst (lT Z)) → g ≠ s := fun {H' g Z} S e z => by
    obtain ⟨_, _, _, h, _⟩ := S
    rw [← z, e] at h
    injection h with h
    injection h with h
    cases Z with
    | nil => cases h
    | cons x Z => injection h with h _; cases h
  have nDs : D ≠ s := fun z => St1.some_ (z ▸ hD)
  have hD0 : H D = none := keep_noneM k1 nDs hD
  have n1s := vs3 St2 e1
  have n2s := vs3 St2 e2
  clear k1 k2 pd hD et1 eq1 pk1 ew ea eb St1 hX1 hX2
  repeat kaf_suf
  refine ⟨rfl, s, 2, rfl, St2, by decide, wd_small (by decide), fun H3 v k3 St3 v0 v1 => ?_⟩
  have eD3 := k3.get nDs eD
  have e13 := k3.get n1s e1
  have e23 := k3.get n2s e2
  have k03 := k02.trans k3
  clear eD e1 e2 k02 k3 St2
  have hv : ∃ (e : Addr) (X Y : List Tx) (jj : Nat), atI ([d1, d2].map V.ref) v = some (.ref e) ∧ H3 e = some (.lst (lT X)) ∧ sL X + sL Y ≤ 3300 ∧ ixN 2 v = some jj ∧ (jj = 0 ∧ Y = X2 ∨ jj = 1 ∧ Y = X1) := by
    have : v = 0 ∨ v = 1 := by omega
    rcases this with rfl | rfl
    · exact ⟨d1, X1, X2, 0, rfl, e13, hsum, rfl, .inl ⟨rfl, rfl⟩⟩
    · exact ⟨d2, X2, X1, 1, rfl, e23, by omega, rfl, .inr ⟨rfl, rfl⟩⟩
  obtain ⟨e, X, Y, jj, hat2, ee, sXY, hix, hjj⟩ := hv
  have nes := vs3 St3 ee
  have xl := sL_len X
  have lTl : (lT X).length = X.length := List.length_map ..
  repeat kaf_suf
  rw [lTl]
  refine ⟨rfl, s, (X.length : Int) + 1, rfl, St3, by omega, Nat.lt_of_lt_of_le (show ((X.length : Int) + 1).natAbs < 2 ^ 12 by omega) (Nat.pow_le_pow_right (by decide) (by decide)), fun H4 o k4 St4 o0 o1 => ?_⟩
  have eD4 := k4.get nDs eD3
  have e14 := k4.get n1s e13
  have e24 := k4.get n2s e23
  have ee4 := k4.get nes ee
  have k04 := k03.trans k4
  clear eD3 e13 e23 k03 k4 St3 ee
  repeat kaf_suf
  refine ⟨rfl, s, 3, rfl, St4, by decide, wd_small (by decide), fun H5 y k5 St5 y0 y1 => ?_⟩
  have eD5 := k5.get nDs eD4
  have e15 := k5.get n1s e14
  have e25 := k5.get n2s e24
  have ee5 := k5.get nes ee4
  have k05 := k04.trans k5
  clear eD4 e14 e24 k04 k5 St4 ee4
  obtain ⟨i, rfl⟩ : ∃ i : Nat, o = (i : Int) := ⟨o.toNat, by omega⟩
  have s1 := sL_cut X i
  have s2 := sL_mid X i
  have s3 : sL ((X.drop (i + 1)).take 1) + sL (X.drop (i + 2)) = sL (X.drop (i + 1)) := sL_mid X (i + 1)
  have b0 := sL_len (X.take i)
  have cA : cutV (lT X) (some (i : Int)) (some ((i : Int) + 1)) = lT ((X.drop i).take 1) := lT_mid X i 1
  have cB : cutV (lT X) (some ((i : Int) + 2)) none = lT (X.drop (i + 2)) := lT_drop X (i + 2)
  have cD : cutV (lT X) (some ((i : Int) + 1)) none = lT (X.drop (i + 1)) := lT_drop X (i + 1)
  have cC : cutV (lT X) (some ((i : Int) + 1)) (some ((i : Int) + 2)) = lT ((X.drop (i + 1)).take 1) := lT_mid X (i + 1) 1
  have lT2 : ∀ A B : List Tx, sL A + sL B ≤ 20000 → (lT A).length + (lT B).length ≤ 20000 := fun A B h => by
    have := sL_len A
    have := sL_len B
    unfold lT
    rw [List.length_map, List.length_map]
    omega
  repeat kaf_suf
  refine ⟨fun σ H' => ∃ (x9 x10 x11 : Option V) (g : Addr) (Z : List Tx), σ = [some (.ref s), some (.ref t), some (.ref q), some (.int ((tb.length : Int) - 1 - u)), some (.ref D), some (.int v), some (.ref g), some (.int (i : Int)), some (.int y), x9, x10, x11] ∧ Keep Nil H5 H' ∧ H' g = some (.lst (lT Z)) ∧ (y = 0 ∧ sL Z ≤ 2 * sL X ∨ y ≠ 0 ∧ Z = X), ?_, ?_⟩
  · repeat kaf_suf
    refine r_ite (fun y0 => ?_) (fun y0 => ?_)
    · repeat kaf_suf
      refine v_slL ee5 fun p1 hp1 => ?_
      rw [cA]
      have kHa : Keep Nil H5 (upd H5 p1 (.lst (lT ((X.drop i).take 1)))) := Keep.alloc hp1
      have ep1 : (upd H5 p1 (.lst (lT ((X.drop i).take 1)))) p1 = some (.lst (lT ((X.drop i).take 1))) := upd_same
      generalize upd H5 p1 (.lst (lT ((X.drop i).take 1))) = Ha at kHa ep1 ⊢
      have eea := kHa.get (fun z => z) ee5
      repeat kaf_suf
      refine v_slL eea fun p2 hp2 => ?_
      rw [cB]
      have kHb : Keep Nil Ha (upd Ha p2 (.lst (lT (X.drop (i + 2))))) := Keep.alloc hp2
      have ep2 : (upd Ha p2 (.lst (lT (X.drop (i + 2))))) p2 = some (.lst (lT (X.drop (i + 2)))) := upd_same
      generalize upd Ha p2 (.lst (lT (X.drop (i + 2)))) = Hb at kHb ep2 ⊢
      have eeb := kHb.get (fun z => z) eea
      have ep1b := kHb.get (fun z => z) ep1
      refine v_addL ep1b ep2 (few2 (Nat.le_trans (lT2 _ _ (by (try simp only [sL_app]); omega)) (by decide))) fun p3 hp3 => ?_
      rw [lT_app]
      have kHc : Keep Nil Hb (upd Hb p3 (.lst (lT (((X.drop i).take 1) ++ (X.drop (i + 2)))))) := Keep.alloc hp3
      have ep3 : (upd Hb p3 (.lst (lT (((X.drop i).take 1) ++ (X.drop (i + 2)))))) p3 = some (.lst (lT (((X.drop i).take 1) ++ (X.drop (i + 2))))) := upd_same
      generalize upd Hb p3 (.lst (lT (((X.drop i).take 1) ++ (X.drop (i + 2))))) = Hc at kHc ep3 ⊢
      have eec := kHc.get (fun z => z) eeb
      repeat kaf_suf
      refine v_slL eec fun p4 hp4 => ?_
      rw [lT_take X i]
      have kHd : Keep Nil Hc (upd Hc p4 (.lst (lT (X.take i)))) := Keep.alloc hp4
      have ep4 : (upd Hc p4 (.lst (lT (X.take i)))) p4 = some (.lst (lT (X.take i))) := upd_same
      generalize upd Hc p4 (.lst (lT (X.take i))) = Hd at kHd ep4 ⊢
      have eed := kHd.get (fun z => z) eec
      have ep3d := kHd.get (fun z => z) ep3
      repeat kaf_suf
      refine v_slL eed fun p5 hp5 => ?_
      rw [cC]
      have kHe : Keep Nil Hd (upd Hd p5 (.lst (lT ((X.drop (i + 1)).take 1)))) := Keep.alloc hp5
      have ep5 : (upd Hd p5 (.lst (lT ((X.drop (i + 1)).take 1)))) p5 = some (.lst (lT ((X.drop (i + 1)).take 1))) := upd_same
      generalize upd Hd p5 (.lst (lT ((X.drop (i + 1)).take 1))) = He at kHe ep5 ⊢
      have ep3e := kHe.get (fun z => z) ep3d
      have ep4e := kHe.get (fun z => z) ep4
      refine v_addL ep4e ep5 (few2 (Nat.le_trans (lT2 _ _ (by (try simp only [sL_app]); omega)) (by decide))) fun p6 hp6 => ?_
      rw [lT_app]
      have kHf : Keep Nil He (upd He p6 (.lst (lT ((X.take i) ++ ((X.drop (i + 1)).take 1))))) := Keep.alloc hp6
      have ep6 : (upd He p6 (.lst (lT ((X.take i) ++ ((X.drop (i + 1)).take 1))))) p6 = some (.lst (lT ((X.take i) ++ ((X.drop (i + 1)).take 1)))) := upd_same
      generalize upd He p6 (.lst (lT ((X.take i) ++ ((X.drop (i + 1)).take 1)))) = Hf at kHf ep6 ⊢
      have ep3f := kHf.get (fun z => z) ep3e
      repeat kaf_suf
      refine v_addL ep6 ep3f (few2 (Nat.le_trans (lT2 _ _ (by (try simp only [sL_app]); omega)) (by decide))) fun p7 hp7 => ?_
      rw [lT_app]
      have kHg : Keep Nil Hf (upd Hf p7 (.lst (lT ((X.take i) ++ ((X.drop (i + 1)).take 1) ++ (((X.drop i).take 1) ++ (X.drop (i + 2))))))) := Keep.alloc hp7
      have ep7 : (upd Hf p7 (.lst (lT ((X.take i) ++ ((X.drop (i + 1)).take 1) ++ (((X.drop i).take 1) ++ (X.drop (i + 2))))))) p7 = some (.lst (lT ((X.take i) ++ ((X.drop (i + 1)).take 1) ++ (((X.drop i).take 1) ++ (X.drop (i + 2)))))) := upd_same
      generalize upd Hf p7 (.lst (lT ((X.take i) ++ ((X.drop (i + 1)).take 1) ++ (((X.drop i).take 1) ++ (X.drop (i + 2)))))) = Hg at kHg ep7 ⊢
      repeat kaf_suf
      refine ⟨_, _, _, p7, _, rfl, kHa.trans (kHb.trans (kHc.trans (kHd.trans (kHe.trans (kHf.trans kHg))))), ep7, .inl ⟨y0, ?_⟩⟩
      rw [sL_app, sL_app, sL_app]
      omega
    · exact ⟨_, _, _, e, X, rfl, Keep.refl, ee5, .inr ⟨y0, rfl⟩⟩
  rintro σ H6 ⟨x9, x10, x11, g, Z, rfl, k6, eg, hz⟩
  repeat kaf_suf
  refine ⟨fun σ H' => ∃ (x9 x10 x11 : Option V) (g : Addr) (Z : List Tx), σ = [some (.ref s), some (.ref t), some (.ref q), some (.int ((tb.length : Int) - 1 - u)), some (.ref D), some (.int v), some (.ref g), some (.int (i : Int)), some (.int y), x9, x10, x11] ∧ Keep Nil H5 H' ∧ H' g = some (.lst (lT Z)) ∧ (y ≠ 2 ∧ sL Z ≤ 2 * sL X ∨ y = 2 ∧ Z = X), ?_, ?_⟩
  · repeat kaf_suf
    refine r_ite (fun y1' => ?_) (fun y1' => ?_)
    · have hZ : Z = X := by
        rcases hz with ⟨h, _⟩ | ⟨_, h⟩
        · omega
        · exact h
      rw [hZ] at eg
      repeat kaf_suf
      refine v_slL eg fun p1 hp1 => ?_
      rw [lT_take X i]
      have kHa : Keep Nil H6 (upd H6 p1 (.lst (lT (X.take i)))) := Keep.alloc hp1
      have ep1 : (upd H6 p1 (.lst (lT (X.take i)))) p1 = some (.lst (lT (X.take i))) := upd_same
      generalize upd H6 p1 (.lst (lT (X.take i))) = Ha at kHa ep1 ⊢
      have eea := kHa.get (fun z => z) eg
      repeat kaf_suf
      refine v_slL eea fun p2 hp2 => ?_
      rw [cA]
      have kHb : Keep Nil Ha (upd Ha p2 (.lst (lT ((X.drop i).take 1)))) := Keep.alloc hp2
      have ep2 : (upd Ha p2 (.lst (lT ((X.drop i).take 1)))) p2 = some (.lst (lT ((X.drop i).take 1))) := upd_same
      generalize upd Ha p2 (.lst (lT ((X.drop i).take 1))) = Hb at kHb ep2 ⊢
      have eeb := kHb.get (fun z => z) eea
      have ep1b := kHb.get (fun z => z) ep1
      refine v_addL ep1b ep2 (few2 (Nat.le_trans (lT2 _ _ (by (try simp only [sL_app]); omega)) (by decide))) fun p3 hp3 => ?_
      rw [lT_app]
      have kHc : Keep Nil Hb (upd Hb p3 (.lst (lT ((X.take i) ++ ((X.drop i).take 1))))) := Keep.alloc hp3
      have ep3 : (upd Hb p3 (.lst (lT ((X.take i) ++ ((X.drop i).take 1))))) p3 = some (.lst (lT ((X.take i) ++ ((X.drop i).take 1)))) := upd_same
      generalize upd Hb p3 (.lst (lT ((X.take i) ++ ((X.drop i).take 1)))) = Hc at kHc ep3 ⊢
      have eec := kHc.get (fun z => z) eeb
      repeat kaf_suf
      refine v_slL eec fun p4 hp4 => ?_
      rw [lT_drop X i]
      have kHd : Keep Nil Hc (upd Hc p4 (.lst (lT (X.drop i)))) := Keep.alloc hp4
      have ep4 : (upd Hc p4 (.lst (lT (X.drop i)))) p4 = some (.lst (lT (X.drop i))) := upd_same
      generalize upd Hc p4 (.lst (lT (X.drop i))) = Hd at kHd ep4 ⊢
      have ep3d := kHd.get (fun z => z) ep3
      refine v_addL ep3d ep4 (few2 (Nat.le_trans (lT2 _ _ (by (try simp only [sL_app]); omega)) (by decide))) fun p5 hp5 => ?_
      rw [lT_app]
      have kHe : Keep Nil Hd (upd Hd p5 (.lst (lT ((X.take i) ++ ((X.drop i).take 1) ++ (X.drop i))))) := Keep.alloc hp5
      have ep5 : (upd Hd p5 (.lst (lT ((X.take i) ++ ((X.drop i).take 1) ++ (X.drop i))))) p5 = some (.lst (lT ((X.take i) ++ ((X.drop i).take 1) ++ (X.drop i)))) := upd_same
      generalize upd Hd p5 (.lst (lT ((X.take i) ++ ((X.drop i).take 1) ++ (X.drop i)))) = He at kHe ep5 ⊢
      repeat kaf_suf
      refine ⟨_, _, _, p5, _, rfl, k6.trans (kHa.trans (kHb.trans (kHc.trans (kHd.trans kHe)))), ep5, .inl ⟨by omega, ?_⟩⟩
      rw [sL_app, sL_app]
      omega
    · refine ⟨_, _, _, g, Z, rfl, k6, eg, ?_⟩
      rcases hz with ⟨h, h'⟩ | ⟨h, h'⟩
      · exact .inl ⟨by omega, h'⟩
      · exact .inr ⟨by omega, h'⟩
  clear hz eg k6
  rintro σ H6 ⟨x9, x10, x11, g, Z, rfl, k6, eg, hz⟩
  repeat kaf_suf
  refine ⟨fun σ H' => ∃ (x9 x10 x11 : Option V) (g : Addr) (Z : List Tx), σ = [some (.ref s), some (.ref t), some (.ref q), some (.int ((tb.length : Int) - 1 - u)), some (.ref D), some (.int v), some (.ref g), some (.int (i : Int)), some (.int y), x9, x10, x11] ∧ Keep Nil H5 H' ∧ H' g = some (.lst (lT Z)) ∧ sL Z ≤ 2 * sL X, ?_, ?_⟩
  · repeat kaf_suf
    refine r_ite (fun y2' => ?_) (fun y2' => ?_)
    · have hZ : Z = X := by
        rcases hz with ⟨h, _⟩ | ⟨_, h⟩
        · omega
        · exact h
      rw [hZ] at eg
      repeat kaf_suf
      refine v_slL eg fun p1 hp1 => ?_
      rw [lT_take X i]
      have kHa : Keep Nil H6 (upd H6 p1 (.lst (lT (X.take i)))) := Keep.alloc hp1
      have ep1 : (upd H6 p1 (.lst (lT (X.take i)))) p1 = some (.lst (lT (X.take i))) := upd_same
      generalize upd H6 p1 (.lst (lT (X.take i))) = Ha at kHa ep1 ⊢
      have eea := kHa.get (fun z => z) eg
      repeat kaf_suf
      refine v_slL eea fun p2 hp2 => ?_
      rw [cD]
      have kHb : Keep Nil Ha (upd Ha p2 (.lst (lT (X.drop (i + 1))))) := Keep.alloc hp2
      have ep2 : (upd Ha p2 (.lst (lT (X.drop (i + 1))))) p2 = some (.lst (lT (X.drop (i + 1)))) := upd_same
      generalize upd Ha p2 (.lst (lT (X.drop (i + 1)))) = Hb at kHb ep2 ⊢
      have ep1b := kHb.get (fun z => z) ep1
      refine v_addL ep1b ep2 (few2 (Nat.le_trans (lT2 _ _ (by (try simp only [sL_app]); omega)) (by decide))) fun p3 hp3 => ?_
      rw [lT_app]
      have kHc : Keep Nil Hb (upd Hb p3 (.lst (lT ((X.take i) ++ (X.drop (i + 1)))))) := Keep.alloc hp3
      have ep3 : (upd Hb p3 (.lst (lT ((X.take i) ++ (X.drop (i + 1)))))) p3 = some (.lst (lT ((X.take i) ++ (X.drop (i + 1))))) := upd_same
      generalize upd Hb p3 (.lst (lT ((X.take i) ++ (X.drop (i + 1))))) = Hc at kHc ep3 ⊢
      repeat kaf_suf
      refine ⟨_, _, _, p3, _, rfl, k6.trans (kHa.trans (kHb.trans kHc)), ep3, ?_⟩
      rw [sL_app]
      omega
    · refine ⟨_, _, _, g, Z, rfl, k6, eg, ?_⟩
      rcases hz with ⟨h, h'⟩ | ⟨h, h'⟩
      · exact h'
      · omega
  clear hz eg k6
  rintro σ H6 ⟨x9, x10, x11, g, Z, rfl, k6, eg, hz⟩
  have eD6 := k6.get (fun z => z) eD5
  have e16 := k6.get (fun z => z) e15
  have e26 := k6.get (fun z => z) e25
  have ngD : g ≠ D := fun z => by
    rw [z, eD6] at eg
    injection eg with eg
    injection eg with eg
    cases Z with
    | nil => cases eg
    | cons x Z => injection eg with eg _; cases eg
  repeat kaf_suf
  have hfin : ∃ (ga gb : Addr) (A B : List Tx), ([d1, d2].map V.ref).set jj (.ref g) = [.ref ga, .ref gb] ∧ (upd H6 D (.lst (([d1, d2].map V.ref).set jj (.ref g)))) ga = some (.lst (lT A)) ∧ (upd H6 D (.lst (([d1, d2].map V.ref).set jj (.ref g)))) gb = some (.lst (lT B)) ∧ sL A + sL B ≤ 6600 := by
    rcases hjj with ⟨rfl, hY⟩ | ⟨rfl, hY⟩
    · exact ⟨g, d2, Z, X2, rfl, get_set ngD eg, get_set n2 e26, by rw [← hY]; omega⟩
    · exact ⟨d1, g, X1, Z, rfl, get_set n1 e16, get_set ngD eg, by rw [← hY]; omega⟩
  have k7 : Keep Nil H5 H6 := k6
  have kfin : Keep (fun x => x = s) H (upd H6 D (.lst (([d1, d2].map V.ref).set jj (.ref g)))) := (k05.trans k6.weak).setN hD0
  have Stf : StA (upd H6 D (.lst (([d1, d2].map V.ref).set jj (.ref g)))) s := (St5.keep k6).keepN (Keep.refl.set rfl : Keep (fun x => x = D) H6 _) fun z => nDs z.symm
  obtain ⟨ga, gb, A, B, hl, ega, egb, sAB⟩ := hfin
  rw [hl] at ega egb kfin Stf ⊢
  have eDf : (upd H6 D (.lst [.ref ga, .ref gb])) D = some (.lst [.ref ga, .ref gb]) := upd_same
  generalize upd H6 D (.lst [.ref ga, .ref gb]) = H7 at ega egb kfin Stf eDf ⊢
  have ja := jc_len (l := A)
  have jb := jc_len (l := B)
  have jl : ∀ X : List Tx, sL X ≤ 20000 → ((X.map tS).map (·.length)).sum + (X.map tS).length * ("," : Str).length ≤ 16777216 := fun X h => by
    have := sum_app (l := X) (k := 1)
    have e : ("," : Str).length = 1 := by decide +kernel
    rw [e]
    have := sL_len X
    unfold sL at h
    unfold sL at this
    omega
  have ja : (jc A).length ≤ sL A := ja
  have jb : (jc B).length ≤ sL B := jb
  repeat kaf_suf
  refine v_joinL (ys := A.map tS) (by rw [List.map_map]; exact ega) (jl A (by omega)) ?_
  rw [jc_str]
  repeat kaf_suf
  have l1 : ("{" : Str).length = 1 := by decide +kernel
  have l2 : ("|" : Str).length = 1 := by decide +kernel
  have l3 : ("}" : Str).length = 1 := by decide +kernel
  refine v_addS (by rw [tS_len, l1, sizeLine_eq]; omega) ?_
  repeat kaf_suf
  refine v_addS (by rw [add_len, tS_len, l1, l2, sizeLine_eq]; omega) ?_
  repeat kaf_suf
  refine v_joinL (ys := B.map tS) (by rw [List.map_map]; exact egb) (jl B (by omega)) ?_
  rw [jc_str]
  refine v_addS (by rw [add_len, add_len, tS_len, tS_len, l1, l2, sizeLine_eq]; omega) ?_
  repeat kaf_suf
  refine v_addS (by rw [add_len, add_len, add_len, tS_len, tS_len, l1, l2, l3, sizeLine_eq]; omega) ?_
  exact k _ _ kfin Stf (by rw [add_len, add_len, add_len, add_len, tS_len, tS_len, l1, l2, l3]; omega)
theorem cal_law_turned {c : Cn} {mg : Str → Option Value} {base : Heap} (T : Txt c mg) : Cal c.P c.w c.K mg base CX0 4 "_law_turned" (sp_law_turned c) := by
  obtain ⟨f, fd, F, g, b⟩ := T.F_law_turned
  exact ⟨f, fd, ["store", "table", "texts"], F.ok (k := 3) (N := N_law_turned) sc_law_turned (fun vs H Q E h => h.1) (fun cdv A outer s H vs Q E hr h => ⟨t_law_turned c, by
  exact (pss_cons (ps_set (i := 3) sc_law_turned.nd rfl (Or.inl rfl) (pe_op o_sub (pe_op o_sub (pe_callB k_len (by rfl) T.n_len (by decide +kernel) (pa_cons (pv 1) pa_nil)) pe_int) (e_call (cal_law_take T) hr (by decide) pass0 rfl (pa_cons (pv 0) (pa_cons (pe_callB k_len (by rfl) T.n_len (by decide +kernel) (pa_cons (pv 1) pa_nil)) pa_nil)))))
  (pss_cons (ps_setLc (i := 4) (own := [("moves", 10)]) rfl sc_law_turned.nd rfl rfl (sw_true rfl rfl rfl (by decide +kernel)) (pi_any (pe_ix (x_ix (hu64 hr)) (pv 1) (pv 3) (fun _ _ => rfl))) (blkOk_by (own := [("moves", 10)]) (N := N_law_turned) (sc := defScope s_law_turned) (by decide +kernel)) (fun _ _ _ _ _ => (pg_name (i := 10) sc_law_turned.nd rfl (Or.inl rfl))) (fun _ _ _ _ _ => pts_nil) (fun _ _ _ _ _ => (e_call (cal_law_unlike T) hr (by decide) pass0 rfl (pa_cons (pe_lc (own := [("move", 11)]) rfl sc_law_turned.nd (pi_any (pv 10)) (blkOk_by (own := [("move", 11)]) (N := N_law_turned) (by rfl)) (fun _ _ _ _ _ => (pg_name (i := 11) sc_law_turned.nd rfl (Or.inl rfl))) (fun _ _ _ _ _ => pts_nil) (fun _ _ _ _ _ => (pe_ix (x_ix (hu64 hr)) (pv 2) (pv 11) (fun _ _ => rfl)))) pa_nil))))
  (pss_cons (ps_set (i := 5) sc_law_turned.nd rfl (Or.inl rfl) (e_call (cal_law_take T) hr (by decide) pass0 rfl (pa_cons (pv 0) (pa_cons pe_int pa_nil))))
  (pss_cons (ps_set (i := 6) sc_law_turned.nd rfl (Or.inl rfl) (pe_ix (x_ix (hu64 hr)) (pv 4) (pv 5) (fun _ _ => rfl)))
  (pss_cons (ps_set (i := 7) sc_law_turned.nd rfl (Or.inl rfl) (e_call (cal_law_take T) hr (by decide) pass0 rfl (pa_cons (pv 0) (pa_cons (pe_op o_add (pe_callB k_len (by rfl) T.n_len (by decide +kernel) (pa_cons (pv 6) pa_nil)) pe_int) pa_nil))))
  (pss_cons (ps_set (i := 8) sc_law_turned.nd rfl (Or.inl rfl) (e_call (cal_law_take T) hr (by decide) pass0 rfl (pa_cons (pv 0) (pa_cons pe_int pa_nil))))
  (C8.pss_cut (ps_if (pt_cmpR (o_eq (hu64 hr)) (pv 8) pe_int (nomark _)) (pss_cons (ps_set (i := 9) sc_law_turned.nd rfl (Or.inl rfl) (pe_op o_add (pe_slice s_sl (pv 6) (po_some (pv 7)) (po_some (pe_op o_add (pv 7) pe_int))) (pe_slice s_sl (pv 6) (po_some (pe_op o_add (pv 7) pe_int)) po_none)))
  (pss_one (ps_set (i := 6) sc_law_turned.nd rfl (Or.inl rfl) (pe_op o_add (pe_op o_add (pe_slice s_sl (pv 6) po_none (po_some (pv 7))) (pe_slice s_sl (pv 6) (po_some (pe_op o_add (pv 7) pe_int)) (po_some (pe_op o_add (pv 7) pe_int)))) (pv 9))))) pss_nil)
  (C8.pss_cut (ps_if (pt_cmpR (o_eq (hu64 hr)) (pv 8) pe_int (nomark _)) (pss_one (ps_set (i := 6) sc_law_turned.nd rfl (Or.inl rfl) (pe_op o_add (pe_op o_add (pe_slice s_sl (pv 6) po_none (po_some (pv 7))) (pe_slice s_sl (pv 6) (po_some (pv 7)) (po_some (pe_op o_add (pv 7) pe_int)))) (pe_slice s_sl (pv 6) (po_some (pv 7)) po_none)))) pss_nil)
  (C8.pss_cut (ps_if (pt_cmpR (o_eq (hu64 hr)) (pv 8) pe_int (nomark _)) (pss_one (ps_set (i := 6) sc_law_turned.nd rfl (Or.inl rfl) (pe_op o_add (pe_slice s_sl (pv 6) po_none (po_some (pv 7))) (pe_slice s_sl (pv 6) (po_some (pe_op o_add (pv 7) pe_int)) po_none)))) pss_nil)
  (pss_cons (ps_asg (pv 6) (pg_sub (pv 4) (pv 5) (s_set (hu64 hr))))
  (pss_one (ps_ret (pe_op o_add (pe_op o_add (pe_op o_add (pe_op o_add pe_str (pe_bm PySem.F.plainAttrs_str PySem.F.slot_str_join PySem.F.type_str_join mt_join pe_str (pa_cons (pe_ix (x_ix (hu64 hr)) (pv 4) pe_int (fun _ _ => rfl)) pa_nil))) pe_str) (pe_bm PySem.F.plainAttrs_str PySem.F.slot_str_join PySem.F.type_str_join mt_join pe_str (pa_cons (pe_ix (x_ix (hu64 hr)) (pv 4) pe_int (fun _ _ => rfl)) pa_nil))) pe_str))))))))))))), p_law_turned T h⟩), g, F.kp, b⟩

theorem RowsAt.keepM {M N : Addr → Prop} {H H' : Hp} {t : Addr} {tb : List Gm} (r : RowsAt M H t tb) (k : Keep N H H') (n : ¬ N t) (s : ∀ x, N x → M x) : RowsAt M H' t tb := by
  obtain ⟨ks, e, p⟩ := r
  exact ⟨ks, k.get n e, paired_keep p fun w g r => r.keep (k.mono s)⟩
theorem RowsAt.nil {M : Addr → Prop} {H : Hp} {t : Addr} {tb : List Gm} (r : RowsAt M H t tb) : RowsAt Nil H t tb := by
  obtain ⟨ks, e, p⟩ := r
  exact ⟨ks, e, paired_keep p fun t g ⟨a, b, h1, h2, h3, _⟩ => ⟨a, b, h1, h2, h3, (fun z => z), (fun z => z), fun z => z⟩⟩
theorem RowsAt.plus {W M : Addr → Prop} {H : Hp} {t : Addr} {tb : List Gm} (r : RowsAt W H t tb) (n : ∀ x, M x → H x = none) : RowsAt (fun x => W x ∨ M x) H t tb := by
  obtain ⟨ks, e, p⟩ := r
  exact ⟨ks, e, paired_keep p fun t g ⟨a, b, h1, h2, h3, n1, n2, n3⟩ => ⟨a, b, h1, h2, h3, (fun z => z.elim n1 fun z => by rw [n _ z] at h1; cases h1), (fun z => z.elim n2 fun z => by rw [n _ z] at h2; cases h2), fun z => z.elim n3 fun z => by rw [n _ z] at h3; cases h3⟩⟩
theorem RowsAt.mono {W M : Addr → Prop} {H : Hp} {t : Addr} {tb : List Gm} (r : RowsAt W H t tb) (n : ∀ x, M x → W x) : RowsAt M H t tb := by
  obtain ⟨ks, e, p⟩ := r
  exact ⟨ks, e, paired_keep p fun t g r => r.mono n⟩

abbrev N_law_drawn : List Str := ["store", "table", "texts", "kind", "text", "many"]
theorem sc_law_drawn : FnScope N_law_drawn ["store", "table", "texts"] (defScope s_law_drawn) := ⟨rfl, rfl, rfl, by decide +kernel, rfl, by decide +kernel, by decide +kernel⟩
def t_law_drawn (c : Cn) : TS :=
  (tSeq (tAsg (tCall (sp_law_take c) [] E0 (tCons (tVar 0) (tCons (tC (.int 8)) tNil))) (gName 3))
  (C8.tCut (tIfS (tTest (tOp (cLt c.K) (tVar 3) (tC (.int 2))))
  (tAsg (tCall (sp_law_odd c) [] E0 (tCons (tCall (sp_law_take c) [] E0 (tCons (tVar 0) (tCons (tC (.int 31)) tNil))) tNil)) (gName 4))
  (tIfS (tTest (tOp (cLt c.K) (tVar 3) (tC (.int 4))))
  (tAsg (tCall (sp_law_spoilt c) [] E0 (tCons (tVar 0) (tCons (tOp (bIx c.P c.w c.K) (tVar 2) (tCall (sp_law_take c) [] E0 (tCons (tVar 0) (tCons (tCB (kLen c.K) (tCons (tVar 2) tNil)) tNil)))) tNil))) (gName 4))
  (tIfS (tTest (tOp (cLt c.K) (tVar 3) (tC (.int 6))))
  (tAsg (tCall (sp_law_turned c) [] E0 (tCons (tVar 0) (tCons (tVar 1) (tCons (tVar 2) tNil)))) (gName 4))
  (tIfS (tTest (tOp (cEq c.K) (tVar 3) (tC (.int 6))))
  (tRet (tCall (sp_law_within c) [] E0 (tCons (tVar 0) (tCons (tC (.str "0")) (tCons (tOp (bAdd c.K) (tC (.int 11)) (tCall (sp_law_take c) [] E0 (tCons (tVar 0) (tCons (tC (.int 5)) tNil)))) tNil)))))
  (tSeq (tAsg (tOp (bIx c.P c.w c.K) (tVar 2) (tUn (rU fun i => .int (-i)) (tC (.int 1)))) (gName 4))
  (tSeq (tAsg (tOp (bAdd c.K) (tC (.int 100)) (tCall (sp_law_take c) [] E0 (tCons (tVar 0) (tCons (tC (.int 101)) tNil)))) (gName 5))
  (tIfS (tTest (tOp (cEq c.K) (tCall (sp_law_take c) [] E0 (tCons (tVar 0) (tCons (tC (.int 4)) tNil))) (tC (.int 0))))
  (tRet (tOp bMulS (tOp (bIx c.P c.w c.K) (tLst (tCons (tC (.str "{")) (tCons (tC (.str "{|")) (tCons (tC (.str "{0,")) (tCons (tC (.str "{0|")) tNil))))) (tCall (sp_law_take c) [] E0 (tCons (tVar 0) (tCons (tC (.int 4)) tNil)))) (tVar 5)))
  tNext)))))))
  (tSeq (tAsg (tOp (bIx c.P c.w c.K) (tLst (tCons (tC (.int 0)) (tCons (tC (.int 0)) (tCons (tC (.int 1)) (tCons (tC (.int 2)) (tCons (tC (.int 9)) (tCons (tCall (sp_law_take c) [] E0 (tCons (tVar 0) (tCons (tC (.int 10)) tNil))) tNil))))))) (tCall (sp_law_take c) [] E0 (tCons (tVar 0) (tCons (tC (.int 6)) tNil)))) (gName 5))
  (tRet (tCall (sp_law_within c) [] E0 (tCons (tVar 0) (tCons (tVar 4) (tCons (tVar 5) tNil))))))))
def sp_law_drawn (c : Cn) : Sp := fun vs H Q E => vs.length = 3 ∧ ∃ (s t q : Addr) (tb : List Gm) (ts : List Tx), vs = [.ref s, .ref t, .ref q] ∧ StA H s ∧ RowsAt (fun x => x = s) H t tb ∧ t ≠ s ∧ q ≠ s ∧ H q = some (.lst (ts.map fun x => V.str (tS x))) ∧ ts.length = tb.length ∧ TabOk tb ∧ 0 < tb.length ∧
  (∀ row ∈ tb, ((row.1 ++ row.2).map fun z => (ts.getD z.toNat []).length + 1).sum ≤ 3300) ∧ (∀ x ∈ ts, x.length ≤ 3300) ∧ ∀ (H' : Hp) (y : Str), Keep (fun x => x = s) H H' → StA H' s → y.length ≤ 7000 → Q (.str y) H'
theorem atI_last' {xs : List V} {v : V} (h : xs[xs.length - 1]? = some v) (p : 0 < xs.length) : atI xs (-1) = some v := by
  unfold atI ixN
  rw [if_neg (by decide), if_pos (by omega)]
  have e1 : ((-1 : Int) + (xs.length : Int)).toNat = xs.length - 1 := by omega
  rw [e1]; exact h
theorem p_law_drawn {c : Cn} {mg : Str → Option Value} (T : Txt c mg) {vs : List V} {H : Hp} {Q : VK} {E : XK} (h : sp_law_drawn c vs H Q E) : t_law_drawn c { nx := fun _ H' => Q .non H', rt := Q } (start N_law_drawn vs) H := by
  obtain ⟨_, s, t, q, tb, ts, rfl, St, R, nts, nqs, eq, tsl, tok, pos, rowS, ts3, k⟩ := h
  have tl := tok.len
  unfold t_law_drawn
  repeat kaf_suf
  refine ⟨rfl, s, 8, rfl, St, by decide, wd_small (by decide), fun H1 kd k1 St1 kd0 kd1 => ?_⟩
  have R1 : RowsAt (fun x => x = s) H1 t tb := R.keepM k1 nts fun x z => z
  have eq1 := k1.get nqs eq
  clear R eq St
  have tsm : (ts.map fun x => V.str (tS x)).length = ts.length := List.length_map ..
  repeat kaf_suf
  refine ⟨fun σ H' => ∃ (x5 : Option V) (y : Str), σ = [some (.ref s), some (.ref t), some (.ref q), some (.int kd), some (.str y), x5] ∧ Keep (fun x => x = s) H1 H' ∧ StA H' s ∧ y.length ≤ 6800, ?_, ?_⟩
  rotate_left
  · rintro σ H2 ⟨x5, y, rfl, k2, St2, yl⟩
    repeat kaf_suf
    refine ⟨rfl, s, 10, rfl, St2, by decide, wd_small (by decide), fun H3 m k3 St3 m0 m1 => ?_⟩
    repeat kaf_suf
    intro l1 hl1
    have St4 := St3.keep (Keep.alloc (o := .lst [.int 0, .int 0, .int 1, .int 2, .int 9, .int m]) hl1)
    have k4 : Keep (fun x => x = s) H1 (upd H3 l1 (.lst [.int 0, .int 0, .int 1, .int 2, .int 9, .int m])) := (k2.trans k3).trans (Keep.alloc hl1)
    have e4 : (upd H3 l1 (.lst [.int 0, .int 0, .int 1, .int 2, .int 9, .int m])) l1 = some (.lst [.int 0, .int 0, .int 1, .int 2, .int 9, .int m]) := upd_same
    have n1s : l1 ≠ s := fun z => St3.some_ (z ▸ hl1)
    generalize upd H3 l1 (.lst [.int 0, .int 0, .int 1, .int 2, .int 9, .int m]) = H4 at St4 k4 e4 ⊢
    repeat kaf_suf
    refine ⟨rfl, s, 6, rfl, St4, by decide, wd_small (by decide), fun H5 u k5 St5 u0 u1 => ?_⟩
    have e5 := k5.get n1s e4
    obtain ⟨_, hx, n, rfl, n0, n1⟩ := atI_any (P := fun x => ∃ n : Int, x = .int n ∧ 0 ≤ n ∧ n ≤ 9) (xs := [.int 0, .int 0, .int 1, .int 2, .int 9, .int m]) u0 u1 (fun x hx => by
      simp only [List.mem_cons, List.not_mem_nil, or_false] at hx
      rcases hx with rfl | rfl | rfl | rfl | rfl | rfl
      · exact ⟨_, rfl, by decide, by decide⟩
      · exact ⟨_, rfl, by decide, by decide⟩
      · exact ⟨_, rfl, by decide, by decide⟩
      · exact ⟨_, rfl, by decide, by decide⟩
      · exact ⟨_, rfl, by decide, by decide⟩
      · exact ⟨_, rfl, m0, by omega⟩)
    repeat kaf_suf
    exact ⟨rfl, s, y, n, rfl, St5, by omega, n0, by omega, fun H6 y' k6 St6 yl' => k _ y' (k1.trans ((k4.trans k5).trans k6)) St6 (by omega)⟩
  repeat kaf_suf
  refine r_ite (fun _ => ?_) (fun _ => ?_)
  · repeat kaf_suf
    refine ⟨rfl, s, 31, rfl, St1, by decide, wd_small (by decide), fun H2 u k2 St2 u0 u1 => ?_⟩
    repeat kaf_suf
    refine ⟨rfl, u, rfl, u0, u1, fun H3 z k3 zl => ?_⟩
    repeat kaf_suf
    exact ⟨_, z, rfl, k2.trans k3.weak, St2.keep k3, by omega⟩
  repeat kaf_suf
  refine r_ite (fun _ => ?_) (fun _ => ?_)
  · repeat kaf_suf
    rw [tsm]
    refine ⟨rfl, s, (ts.length : Int), rfl, St1, by omega, wd_small (by omega), fun H2 u k2 St2 u0 u1 => ?_⟩
    have eq2 := k2.get nqs eq1
    obtain ⟨_, hx, z, rfl, zl⟩ := atI_any (P := ShS 3300) (xs := ts.map fun x => V.str (tS x)) u0 (by rw [tsm]; exact u1) (fun x hx => by
      obtain ⟨y, hy, rfl⟩ := List.mem_map.mp hx
      exact ⟨_, rfl, by rw [tS_len]; exact ts3 y hy⟩)
    repeat kaf_suf
    refine ⟨rfl, s, z, rfl, St2, zl, fun H3 y k3 St3 yl => ?_⟩
    repeat kaf_suf
    exact ⟨_, y, rfl, k2.trans k3, St3, by omega⟩
  repeat kaf_suf
  refine r_ite (fun _ => ?_) (fun _ => ?_)
  · repeat kaf_suf
    refine ⟨rfl, s, t, q, tb, ts, rfl, St1, R1, nts, nqs, eq1, tsl, tok, pos, rowS, fun H2 y k2 St2 yl => ?_⟩
    repeat kaf_suf
    exact ⟨_, y, rfl, k2, St2, by omega⟩
  repeat kaf_suf
  refine r_ite (fun _ => ?_) (fun _ => ?_)
  · repeat kaf_suf
    refine ⟨rfl, s, 5, rfl, St1, by decide, wd_small (by decide), fun H2 u k2 St2 u0 u1 => ?_⟩
    repeat kaf_suf
    have l0 : ("0" : Str).length = 1 := by decide +kernel
    exact ⟨rfl, s, "0", 11 + u, rfl, St2, by omega, by omega, by omega, fun H3 y k3 St3 yl => k _ y ((k1.trans k2).trans k3) St3 (by omega)⟩
  obtain ⟨x, hx⟩ : ∃ x, ts[ts.length - 1]? = some x := ⟨_, List.getElem?_eq_getElem (by omega)⟩
  have xl := ts3 x (List.mem_of_getElem? hx)
  have hl : atI (ts.map fun x => V.str (tS x)) (-1) = some (.str (tS x)) := atI_last' (by rw [tsm, List.getElem?_map, hx]; rfl) (by rw [tsm]; omega)
  repeat kaf_suf
  refine ⟨rfl, s, 101, rfl, St1, by decide, wd_small (by decide), fun H2 m k2 St2 m0 m1 => ?_⟩
  repeat kaf_suf
  refine ⟨rfl, s, 4, rfl, St2, by decide, wd_small (by decide), fun H3 o k3 St3 o0 o1 => ?_⟩
  repeat kaf_suf
  refine r_ite (fun _ => ?_) (fun _ => ?_)
  rotate_left
  · repeat kaf_suf
    exact ⟨_, tS x, rfl, k2.trans k3, St3, by rw [tS_len]; omega⟩
  repeat kaf_suf
  intro l1 hl1
  have St4 := St3.keep (Keep.alloc (o := .lst [.str "{", .str "{|", .str "{0,", .str "{0|"]) hl1)
  have k4 : Keep (fun x => x = s) H1 (upd H3 l1 (.lst [.str "{", .str "{|", .str "{0,", .str "{0|"])) := (k2.trans k3).trans (Keep.alloc hl1)
  have e4 : (upd H3 l1 (.lst [.str "{", .str "{|", .str "{0,", .str "{0|"])) l1 = some (.lst [.str "{", .str "{|", .str "{0,", .str "{0|"]) := upd_same
  have n1s : l1 ≠ s := fun z => St3.some_ (z ▸ hl1)
  generalize upd H3 l1 (.lst [.str "{", .str "{|", .str "{0,", .str "{0|"]) = H4 at St4 k4 e4 ⊢
  repeat kaf_suf
  refine ⟨rfl, s, 4, rfl, St4, by decide, wd_small (by decide), fun H5 u k5 St5 u0 u1 => ?_⟩
  have e5 := k5.get n1s e4
  obtain ⟨_, ha, s1, rfl, l1'⟩ := atI_any (P := ShS 3) (xs := [.str "{", .str "{|", .str "{0,", .str "{0|"]) u0 u1 (.cons (by decide +kernel) (.cons (by decide +kernel) (.cons (by decide +kernel) (.cons (by decide +kernel) .nil))))
  repeat kaf_suf
  refine v_mulS (mulOk_small (by omega) (by omega) (by omega)) ?_
  have ml := mul_len s1 (n := 100 + m) (by omega)
  have : s1.length * (100 + m).toNat ≤ 3 * 200 := Nat.mul_le_mul l1' (by omega)
  exact k _ _ (k1.trans (k4.trans k5)) St5 (by omega)
theorem cal_law_drawn {c : Cn} {mg : Str → Option Value} {base : Heap} (T : Txt c mg) : Cal c.P c.w c.K mg base CX0 6 "_law_drawn" (sp_law_drawn c) := by
  obtain ⟨f, fd, F, g, b⟩ := T.F_law_drawn
  exact ⟨f, fd, ["store", "table", "texts"], F.ok (k := 5) (N := N_law_drawn) sc_law_drawn (fun vs H Q E h => h.1) (fun cdv A outer s H vs Q E hr h => ⟨t_law_drawn c, by
  exact (pss_cons (ps_set (i := 3) sc_law_drawn.nd rfl (Or.inl rfl) (e_call (cal_law_take T) hr (by decide) pass0 rfl (pa_cons (pv 0) (pa_cons pe_int pa_nil))))
  (C8.pss_cut (ps_if (pt_cmpR (o_lt (hu64 hr)) (pv 3) pe_int (nomark _)) (pss_one (ps_set (i := 4) sc_law_drawn.nd rfl (Or.inl rfl) (e_call (cal_law_odd T) hr (by decide) pass0 rfl (pa_cons (e_call (cal_law_take T) hr (by decide) pass0 rfl (pa_cons (pv 0) (pa_cons pe_int pa_nil))) pa_nil)))) (pss_one (ps_if (pt_cmpR (o_lt (hu64 hr)) (pv 3) pe_int (nomark _)) (pss_one (ps_set (i := 4) sc_law_drawn.nd rfl (Or.inl rfl) (e_call (cal_law_spoilt T) hr (by decide) pass0 rfl (pa_cons (pv 0) (pa_cons (pe_ix (x_ix (hu64 hr)) (pv 2) (e_call (cal_law_take T) hr (by decide) pass0 rfl (pa_cons (pv 0) (pa_cons (pe_callB k_len (by rfl) T.n_len (by decide +kernel) (pa_cons (pv 2) pa_nil)) pa_nil))) (fun _ _ => rfl)) pa_nil))))) (pss_one (ps_if (pt_cmpR (o_lt (hu64 hr)) (pv 3) pe_int (nomark _)) (pss_one (ps_set (i := 4) sc_law_drawn.nd rfl (Or.inl rfl) (e_call (cal_law_turned T) hr (by decide) pass0 rfl (pa_cons (pv 0) (pa_cons (pv 1) (pa_cons (pv 2) pa_nil)))))) (pss_one (ps_if (pt_cmpR (o_eq (hu64 hr)) (pv 3) pe_int (nomark _)) (pss_one (ps_ret (e_call (cal_law_within T) hr (by decide) pass0 rfl (pa_cons (pv 0) (pa_cons pe_str (pa_cons (pe_op o_add pe_int (e_call (cal_law_take T) hr (by decide) pass0 rfl (pa_cons (pv 0) (pa_cons pe_int pa_nil)))) pa_nil)))))) (pss_cons (ps_set (i := 4) sc_law_drawn.nd rfl (Or.inl rfl) (pe_ix (x_ix (hu64 hr)) (pv 2) (pe_un un_neg pe_int) (fun _ _ => rfl)))
  (pss_cons (ps_set (i := 5) sc_law_drawn.nd rfl (Or.inl rfl) (pe_op o_add pe_int (e_call (cal_law_take T) hr (by decide) pass0 rfl (pa_cons (pv 0) (pa_cons pe_int pa_nil)))))
  (pss_one (ps_if (pt_cmpR (o_eq (hu64 hr)) (e_call (cal_law_take T) hr (by decide) pass0 rfl (pa_cons (pv 0) (pa_cons pe_int pa_nil))) pe_int (nomark _)) (pss_one (ps_ret (pe_op o_mulS (pe_ix (x_ix (hu64 hr)) (pe_lst (pa_cons pe_str (pa_cons pe_str (pa_cons pe_str (pa_cons pe_str pa_nil))))) (e_call (cal_law_take T) hr (by decide) pass0 rfl (pa_cons (pv 0) (pa_cons pe_int pa_nil))) (fun _ _ => rfl)) (pv 5)))) pss_nil)))))))))))
  (pss_cons (ps_set (i := 5) sc_law_drawn.nd rfl (Or.inl rfl) (pe_ix (x_ix (hu64 hr)) (pe_lst (pa_cons pe_int (pa_cons pe_int (pa_cons pe_int (pa_cons pe_int (pa_cons pe_int (pa_cons (e_call (cal_law_take T) hr (by decide) pass0 rfl (pa_cons (pv 0) (pa_cons pe_int pa_nil))) pa_nil))))))) (e_call (cal_law_take T) hr (by decide) pass0 rfl (pa_cons (pv 0) (pa_cons pe_int pa_nil))) (fun _ _ => rfl)))
  (pss_one (ps_ret (e_call (cal_law_within T) hr (by decide) pass0 rfl (pa_cons (pv 0) (pa_cons (pv 4) (pa_cons (pv 5) pa_nil))))))))), p_law_drawn T h⟩), g, F.kp, b⟩
abbrev N_law_refused : List Str := ["book", "thing", "good", "e"]
theorem sc_law_refused : FnScope N_law_refused ["book", "thing"] (defScope s_law_refused) := ⟨rfl, rfl, rfl, by decide +kernel, rfl, by decide +kernel, by decide +kernel⟩
def t_law_refused (c : Cn) : TS :=
  (tSeq (tAsg (tC (.bl false)) (gName 2))
  (tSeq (tTryW c.K (.ref c.cNoText) 3
    (tAsg (tAndV (tCB (uIsV c.K) (tCons (tVar 3) (tCons (tC (.ref c.cGameError)) tNil))) (tAndV (tCB (uIsV c.K) (tCons (tVar 3) (tCons (tC (.ty "ValueError")) tNil))) (tNotV (tCB (uIsV c.K) (tCons (tVar 3) (tCons (tC (.ref c.cNoGame)) tNil)))))) (gName 2))
    (fun W => (tDrop (tCallW (sx_read c) W (tCons (tVar 0) (tCons (tVar 1) tNil))))))
  (tRet (tVar 2))))
def sp_law_refused (c : Cn) : Sp := fun vs H Q E => vs.length = 2 ∧ ∃ (b : Addr) (v : V), vs = [.ref b, v] ∧ (NoS H v ∨ ∃ L : Tx, v = .str (tS L) ∧ L.length ≤ 20000 ∧ ∀ w, pG 12 L ≠ some (w, [])) ∧ ∀ H', Keep Nil H H' → Q (.bl true) H'
theorem p_law_refused {c : Cn} {mg : Str → Option Value} (T : Txt c mg) {vs : List V} {H : Hp} {Q : VK} {E : XK} (h : sp_law_refused c vs H Q E) : t_law_refused c { nx := fun _ H' => Q .non H', rt := Q } (start N_law_refused vs) H := by
  obtain ⟨_, b, v, rfl, bd, k⟩ := h
  unfold t_law_refused
  repeat kaf_suf
  refine ⟨rfl, .inr ⟨rfl, b, v, rfl, bd, fun H1 k1 => w_valW (Txt.mm_NoText T) fun a ha => ?_⟩⟩
  have ex := Txt.e_NoText T
  repeat kaf_suf
  refine v_isV upd_same ex (.own _) (Txt.i_NoText_GameError T) ?_
  repeat kaf_suf
  refine v_isV upd_same ex (.ty _) (Txt.iv_NoText T) ?_
  repeat kaf_suf
  refine v_isV upd_same ex (.own _) (Txt.i_NoText_NoGame T) ?_
  repeat kaf_suf
  exact k _ (k1.new ha)
theorem cal_law_refused {c : Cn} {mg : Str → Option Value} {base : Heap} (T : Txt c mg) : Cal c.P c.w c.K mg base CX0 40 "_law_refused" (sp_law_refused c) := by
  obtain ⟨f, fd, F, g, b⟩ := T.F_law_refused
  exact ⟨f, fd, ["book", "thing"], F.ok (k := 39) (N := N_law_refused) sc_law_refused (fun vs H Q E h => h.1) (fun cdv A outer s H vs Q E hr h => ⟨t_law_refused c, by
  exact (pss_cons (ps_set (i := 2) sc_law_refused.nd rfl (Or.inl rfl) pe_bl)
  (pss_cons (ps_tryW (i := 3) rfl rfl sc_law_refused.nd rfl rfl ⟨rfl, by decide, .inl T.g_NoText⟩ rfl
    (fun W pn xe tk po => (pss_one (ps_expr (e_callS (calx_read T) hr (by decide) tk rfl (pa_cons (pv 0) (pa_cons (pv 1) pa_nil))))))
    (fun a pn => (pss_one (ps_set (i := 2) sc_law_refused.nd rfl (Or.inl rfl) (pe_and (pe_callB k_isV (by rfl) T.n_isinstance (by decide +kernel) (pa_cons (pv 3) (pa_cons (pe_glob rfl T.g_GameError rfl) pa_nil))) (pe_and (pe_callB k_isV (by rfl) T.n_isinstance (by decide +kernel) (pa_cons (pv 3) (pa_cons (pe_bltn rfl T.n_ValueError (by decide +kernel) rfl) pa_nil))) (pe_one (pe_not (pe_callB k_isV (by rfl) T.n_isinstance (by decide +kernel) (pa_cons (pv 3) (pa_cons (pe_glob rfl T.g_NoGame rfl) pa_nil)))))))))))
  (pss_one (ps_ret (pv 2))))), p_law_refused T h⟩), g, F.kp, b⟩

abbrev N_law : List Str := ["script", "book", "table", "store", "texts", "k", "text", "things"]
theorem sc_law : FnScope N_law ["script"] (defScope s_law) := ⟨rfl, rfl, rfl, by decide +kernel, rfl, by decide +kernel, by decide +kernel⟩
def t_law (c : Cn) : TS :=
  (tSeq (tAsg (tMake c.cBook (sp_Book_init c) [] E0 tNil) (gName 1))
  (tSeq (tAsg (tCall (sp_law_games c) [] E0 (tCons (tVar 0) (tCons (tC (.int 0)) (tCons (tC (.int 8)) (tCons (tC (.int 3)) tNil))))) (gName 2))
  (tSeq (tAsg (tCall (sp_law_store c) [] E0 (tCons (tCall (sp_law_cell c) [] E0 (tCons (tVar 0) (tCons (tC (.int 8)) tNil))) tNil)) (gName 3))
  (tSeq (tDrop (tCall (sp_law_more c) [] E0 (tCons (tVar 3) (tCons (tVar 2) (tCons (tCall (sp_law_take c) [] E0 (tCons (tVar 3) (tCons (tC (.int 4)) tNil))) tNil)))))
  (tSeq (tAsg (tCall (sp_law_texts c) [] E0 (tCons (tVar 2) tNil)) (gName 4))
  (tSeq (tFor (iRng1 (tCons (tCB (kMin c.K) (tCons (tCB (kMax c.K) (tCons (tCB (kLen c.K) (tCons (tVar 0) tNil)) (tCons (tC (.int 3)) tNil))) (tCons (tC (.int 12)) tNil))) tNil)) (gName 5)
  (tSeq (tAsg (tCall (sp_law_store c) [] E0 (tCons (tCall (sp_law_cell c) [] E0 (tCons (tVar 0) (tCons (tVar 5) tNil))) tNil)) (gName 3))
  (tSeq (tAsg (tCall (sp_law_drawn c) [] E0 (tCons (tVar 3) (tCons (tVar 2) (tCons (tVar 4) tNil)))) (gName 6))
  (C8.tCut (tIfS (tOr (tTest (tOp (cNe c.K) (tCall (sp_law_end 14 c) [] E0 (tCons (tVar 6) (tCons (tC (.int 0)) (tCons (tC (.int 12)) tNil)))) (tCB (kLen c.K) (tCons (tVar 6) tNil)))) (tTest (tOp (cEq c.K) (tVar 6) (tC (.str "")))))
  (tIfS (tNot (tTru c.K (tCall (sp_law_refused c) [] E0 (tCons (tVar 1) (tCons (tVar 6) tNil)))))
  (tRet (tC (.bl false)))
  tNext)
  (tIfS (tTest (tOp (cNe c.K) (tCall (sp_law_walked 14 c) [] E0 (tCons (tVar 1) (tCons (tCall (sp_read c) [] E0 (tCons (tVar 1) (tCons (tVar 6) tNil))) tNil))) (tVar 6)))
  (tRet (tC (.bl false)))
  tNext))
  (tSeq (tAsg (tLst (tCons (tC .non) (tCons (tC (.int 0)) (tCons (tC (.int 1)) (tCons (tC (.bl true)) (tCons (tTup (tCons (tC (.str "0")) tNil)) (tCons (tLst (tCons (tC (.str "0")) tNil)) (tCons (uDNew c.P c.w) (tCons (tTup (tCons (tC (.int 0)) (tCons (tC (.int 0)) tNil))) tNil))))))))) (gName 7))
  (tIfS (tAnd (tTest (tOp (cEq c.K) (tCall (sp_law_take c) [] E0 (tCons (tVar 3) (tCons (tC (.int 3)) tNil))) (tC (.int 0)))) (tNot (tTru c.K (tCall (sp_law_refused c) [] E0 (tCons (tVar 1) (tCons (tOp (bIx c.P c.w c.K) (tVar 7) (tCall (sp_law_take c) [] E0 (tCons (tVar 3) (tCons (tC (.int 8)) tNil)))) tNil))))))
  (tRet (tC (.bl false)))
  tNext))))))
  (tRet (tC (.bl true)))))))))
def sp_law_law (K : PySem.W.Frag) : Sp := fun vs H Q E => vs.length = 1 ∧ ∃ (a : Addr) (ns : List Int), vs = [.ref a] ∧ SqL K H a (ns.map V.int) ∧ ns.length ≤ 63 ∧ ∀ H', Q (.bl true) H'
theorem p_law {c : Cn} {mg : Str → Option Value} (T : Txt c mg) {vs : List V} {H : Hp} {Q : VK} {E : XK} (h : sp_law_law c.K vs H Q E) : t_law c { nx := fun _ H' => Q .non H', rt := Q } (start N_law vs) H := by
  obtain ⟨_, a, ns, rfl, hs, few, k⟩ := h
  unfold t_law
  repeat kaf_suf
  intro b dx hb hdx ndx
  repeat kaf_suf
  have kb := (Keep.alloc (M := Nil) (o := .own b) hdx).new (o := .ins c.cBook dx []) (show (upd H dx (.own b)) b = none by rw [upd_ne (fun z => ndx z.symm)]; exact hb)
  refine ⟨rfl, b, dx, rfl, upd_same, fun H1 M k1 B1 nB => ⟨rfl, ?_⟩⟩
  have kH1 : Keep Nil H H1 := fun x o n h => k1 x o (fun z => by rw [z, hb] at h; cases h) (kb x o n h)
  have mH : ∀ x, M x → H x = none := fun x hx => none_of_upd (none_of_upd (nB x hx))
  have hide : ∀ {H' : Hp}, Keep M H H' → Keep Nil H H' := fun k x o _ h => k x o (fun z => by rw [mH x z] at h; cases h) h
  have LnB1 : LnB [(([] : List Int), ([] : List Int))] := fun g hg => by
    have hg : g < 1 := hg
    have : g = 0 := by omega
    subst this
    rw [tx_zero]; decide
  clear kb k1 nB hb hdx
  repeat kaf_suf
  refine ⟨rfl, a, ns, rfl, seq_keep kH1 hs, few, (fun H' k' => seq_keep (kH1.trans k') hs), fun H2 t tb ds k2 ht R2 T3 tl => ?_⟩
  have kH2 := kH1.trans k2
  have B2 := B1.same k2
  have R2 : RowsAt (fun x => x = t ∨ M x) H2 t tb := R2.mono fun x z => z.elim .inl fun z => .inr fun h => B1.new h z
  have htH := keep_none kH1 ht
  have ntM := B1.new ht
  clear kH1 B1 k2 ht
  repeat kaf_suf
  refine ⟨rfl, a, ns, 8, rfl, seq_keep kH2 hs, few, by omega, fun z => ?_⟩
  repeat kaf_suf
  refine ⟨rfl, z, rfl, fun s H3 hs3 k3 St3 => ?_⟩
  have nst : s ≠ t := fun z => by
    obtain ⟨ks, e, _⟩ := R2
    rw [← z, hs3] at e; cases e
  have R3 : RowsAt (fun x => x = s ∨ x = t ∨ M x) H3 t tb := ((R2.plus (M := fun x => x = s) fun x z => z ▸ hs3).keepM k3 (fun z => z) fun x z => z.elim).mono fun x z => z.symm
  have kH3 := kH2.trans k3
  have B3 := B2.same k3
  have nsM := B2.new hs3
  have hsH : H s = none := keep_none kH2 hs3
  clear R2 k3 kH2 B2 hs3
  repeat kaf_suf
  refine ⟨rfl, s, 4, rfl, St3, by decide, wd_small (by decide), fun H4 r k4 St4 r0 r1 => ?_⟩
  have B4 := B3.keep k4 (fun x h => by
    obtain ⟨_, _, _, e, _⟩ := St3
    rw [h]; exact ⟨_, e⟩) fun x h z => nsM (z ▸ h)
  have R4 := R3.keepM k4 (fun z => nst z.symm) fun x z => .inl z
  have kH4 : Keep (fun x => x = s) H H4 := kH3.weak.trans k4
  clear R3 B3 k4 St3 kH3
  repeat kaf_suf
  refine ⟨rfl, s, t, r, tb, ds, _, rfl, r0, by omega, St4, R4, .inl rfl, .inr (.inl rfl), (fun x z => z.elim .inl fun z => z.elim (fun z => .inr (.inl z)) fun z => .inr (.inr fun h => B4.new h z)), nst, T3, tl, fun H5 tb lb k5 St5 R5 tok lok lbb pos => ?_⟩
  have hl4 : ∀ x, (x = s ∨ x = t) → ∃ l, H4 x = some (.lst l) := fun x h => by
    rcases h with rfl | rfl
    · obtain ⟨_, _, _, e, _⟩ := St4; exact ⟨_, e⟩
    · obtain ⟨ks, e, _⟩ := R4; exact ⟨_, e⟩
  have B5 := B4.keep k5 hl4 fun x h z => z.elim (fun z => nsM (z ▸ h)) fun z => ntM (z ▸ h)
  have kH5 : Keep Nil H H5 := fun x o n h => k5 x o (fun z => z.elim (fun z => by rw [z, hsH] at h; cases h) fun z => by rw [z, htH] at h; cases h) (kH4 x o (fun z => by rw [z, hsH] at h; cases h) h)
  clear R4 B4 St4 k5 kH4 T3 tl hl4
  repeat kaf_suf
  refine ⟨rfl, t, tb, lb, rfl, R5.nil, tok, lok, fun H6 q ts k6 hq eq tso tsl => ?_⟩
  have B6 := B5.same k6
  have nqM := B5.new hq
  have kH6 := kH5.trans k6
  have R6 : RowsAt M H6 t tb := (R5.keepM k6 (fun z => z) fun x z => z.elim).mono fun x z => .inr (.inr z)
  have ts3 : ∀ x ∈ ts, x.length ≤ 3300 := fun x hx => by
    obtain ⟨i, hi, rfl⟩ := List.getElem_of_mem hx
    have tl := tso.1
    have h1 := tsl i (by omega)
    have ll := lok.1
    rw [List.getD_eq_getElem?_getD, List.getD_eq_getElem?_getD, List.getElem?_eq_getElem hi, List.getElem?_eq_getElem (by omega)] at h1
    have := lbb _ (List.getElem_mem (show i < lb.length by omega))
    have h1 : ts[i].length ≤ lb[i] := h1
    omega
  have rowS : ∀ row ∈ tb, ((row.1 ++ row.2).map fun z => (ts.getD z.toNat []).length + 1).sum ≤ 3300 := fun row hr => by
    obtain ⟨i, hi, rfl⟩ := List.getElem_of_mem hr
    obtain ⟨bd, h1, h2, _⟩ := lok.2 i _ (List.getElem?_eq_getElem hi)
    have lo := tok.low i _ (List.getElem?_eq_getElem hi)
    have h3 := lbb bd (List.mem_of_getElem? h1)
    have := sum_le (l := tb[i].1 ++ tb[i].2) (f := fun z => (ts.getD z.toNat []).length + 1) (g := fun z => lb.getD z.toNat 0 + 1) fun z hz => by
      have := lo z hz
      have := tsl z.toNat (by omega)
      omega
    omega
  clear B5 R5 hq kH5 k6 St5
  repeat kaf_suf
  have m12 : (if (12 : Int) < (if (3 : Int) > ((ns.map V.int).length : Int) then 3 else ((ns.map V.int).length : Int)) then (12 : Int) else (if (3 : Int) > ((ns.map V.int).length : Int) then 3 else ((ns.map V.int).length : Int))).toNat ≤ 12 := by
    split <;> omega
  generalize (if (12 : Int) < (if (3 : Int) > ((ns.map V.int).length : Int) then 3 else ((ns.map V.int).length : Int)) then (12 : Int) else (if (3 : Int) > ((ns.map V.int).length : Int) then 3 else ((ns.map V.int).length : Int))).toNat = mm at m12 ⊢
  refine for_range (lo := 0) (n := mm) (fun j σ H' => ∃ (x3 x5 x6 x7 : Option V) (gs : List Gm) (ds : List Int), σ = [some (.ref a), some (.ref b), some (.ref t), x3, some (.ref q), x5, x6, x7] ∧ Keep M H6 H' ∧ BookAt c H' b M gs ds ∧ LnB gs ∧ gs.length ≤ 1 + 7000 * j) ⟨_, _, _, _, _, _, rfl, Keep.refl, B6, LnB1, Nat.le_refl _⟩ ?_ ?_
  rotate_left
  · rintro σ H7 ⟨x3, x5, x6, x7, gs, ds, rfl, _⟩
    repeat kaf_suf
    exact k _
  rintro j σ H7 hj ⟨x3, x5, x6, x7, gs, ds, rfl, k7, B7, L7, gl⟩
  have kH7 : Keep Nil H H7 := hide (kH6.weak.trans k7)
  have R7 := R6.keepM k7 ntM fun x z => z
  have eq7 := k7.get nqM eq
  repeat kaf_suf
  refine ⟨rfl, a, ns, j, by rw [Int.zero_add], seq_keep kH7 hs, few, by omega, fun z => ?_⟩
  repeat kaf_suf
  refine ⟨rfl, z, rfl, fun s' H8 hs8 k8 St8 => ?_⟩
  have ns't : t ≠ s' := fun z => by
    obtain ⟨ks, e, _⟩ := R7
    rw [z, hs8] at e; cases e
  have ns'q : q ≠ s' := fun z => by rw [z, hs8] at eq7; cases eq7
  have ns'M := B7.new hs8
  have s6 : H6 s' = none := keep_noneM k7 ns'M hs8
  have R8 : RowsAt (fun x => x = s') H8 t tb := ((R7.plus (M := fun x => x = s') fun x z => z ▸ hs8).keepM k8 (fun z => z) fun x z => z.elim).mono fun x z => .inr z
  have B8 := B7.same k8
  have eq8 := k8.get (fun z => z) eq7
  have k68 : Keep (fun x => M x ∨ x = s') H6 H8 := (k7.mono fun x z => .inl z).trans k8.weak
  clear k7 B7 R7 eq7 kH7 k8 hs8
  repeat kaf_suf
  refine ⟨rfl, s', t, q, tb, ts, rfl, St8, R8, ns't, ns'q, eq8, tso.1, tok, pos, rowS, ts3, fun H9 y k9 St9 yl => ?_⟩
  have B9 := B8.keep k9 (fun x h => by
    obtain ⟨_, _, _, e, _⟩ := St8
    rw [h]; exact ⟨_, e⟩) fun x h z => ns'M (z ▸ h)
  have k69 : Keep (fun x => M x ∨ x = s') H6 H9 := k68.trans (k9.mono fun x z => .inr z)
  obtain ⟨L, rfl⟩ : ∃ L : Tx, y = tS L := ⟨y.cps.toList, by simp [tS]⟩
  rw [tS_len] at yl
  clear k68 k9 B8 R8 eq8 St8
  repeat kaf_suf
  refine ⟨fun σ H' => ∃ (x7 : Option V) (gs' : List Gm) (ds' : List Int), σ = [some (.ref a), some (.ref b), some (.ref t), some (.ref s'), some (.ref q), some (.int (0 + (j : Int))), some (.str (tS L)), x7] ∧ Keep (fun x => M x ∨ x = s') H6 H' ∧ StA H' s' ∧ BookAt c H' b M gs' ds' ∧ LnB gs' ∧ gs'.length ≤ 1 + 7000 * (j + 1), ?_, ?_⟩
  · repeat kaf_suf
    refine ⟨rfl, L, 0, 12, rfl, by decide, Nat.zero_le _, by omega, fun no => ?_, fun w r so => ?_⟩
    · rw [List.drop_zero] at no
      repeat kaf_suf
      refine v_lenStr (by rw [tS_len]; omega) ?_
      rw [tS_len]
      repeat kaf_suf
      refine ⟨rfl, b, .str (tS L), rfl, .inr ⟨L, rfl, by omega, fun w h => by rw [no] at h; cases h⟩, fun HA kA => ?_⟩
      repeat kaf_suf
      exact ⟨_, gs, ds, rfl, k69.trans kA.weak, St9.keep kA, B9.same kA, L7, by omega⟩
    · rw [List.drop_zero] at so
      have dl := (drop_le (L := L) (a := 0) (w := w) (r := r) (by rw [List.drop_zero]; exact (pG_sound so).1) (Nat.zero_le _)).1
      repeat kaf_suf
      refine v_lenStr (by rw [tS_len]; omega) ?_
      rw [tS_len]
      repeat kaf_suf
      refine r_iteN (fun ne => ?_) (fun e0 => ?_)
      · have rne : r ≠ [] := fun z => ne (by rw [z]; rfl)
        repeat kaf_suf
        refine ⟨rfl, b, .str (tS L), rfl, .inr ⟨L, rfl, by omega, fun w' h => by
          rw [so] at h
          injection h with h
          injection h with h1 h2
          exact rne h2⟩, fun HA kA => ?_⟩
        repeat kaf_suf
        exact ⟨_, gs, ds, rfl, k69.trans kA.weak, St9.keep kA, B9.same kA, L7, by omega⟩
      · have wpos := List.length_pos_iff.mpr (pG_ne so)
        have r0 : r = [] := List.length_eq_zero_iff.mp (by omega)
        subst r0
        have hw := (pG_sound so).2
        have hL : L = w := by have := (pG_sound so).1; rw [List.append_nil] at this; exact this
        rw [← hL] at hw wpos
        have sl := subs_len L
        repeat kaf_suf
        refine r_ite (fun z => absurd (congrArg List.length (tS_inj (show tS L = tS [] from z))) (by rw [List.length_nil]; omega)) (fun _ => ?_)
        repeat kaf_suf
        refine ⟨rfl, b, M, gs, ds, L, subs L, gs.length, rfl, hw, B9, ⟨fun g h1 h2 => by omega, L7⟩, clS_subs yl, subs_self hw, by omega, fun HA F ds' g kA BA ob hg eg => ?_⟩
        have gl2 := ob.len BA.ok
        repeat kaf_suf
        refine ⟨rfl, b, M, gs ++ F, ds', g, rfl, BA, hg, ob.sh, ⟨12, by decide, by rw [eg]; exact hw⟩, fun HB kB => ?_⟩
        rw [eg]
        repeat kaf_suf
        exact ⟨_, gs ++ F, ds', rfl, (k69.trans (kA.mono fun x z => .inl z)).trans kB.weak, (St9.keepN kA ns'M).keep kB, BA.same kB, ob.sh, by omega⟩
  rintro σ HA ⟨x7', gs', ds', rfl, kA, StA', BA, LA, glA⟩
  repeat kaf_suf
  intro p1 hp1
  repeat kaf_suf
  intro p2 hp2
  repeat kaf_suf
  refine .inl ⟨true, fun p3 hp3 => ?_⟩
  rw [if_pos rfl]
  repeat kaf_suf
  intro p4 hp4
  have k3 := (((Keep.alloc (M := Nil) (o := .tup [.str "0"]) hp1).new (o := .lst [.str "0"]) hp2).new (o := .dK []) hp3).new (o := .tup [.int 0, .int 0]) hp4
  have w3 := get_new (u := .tup [.int 0, .int 0]) hp4 (upd_same (H := upd (upd HA p1 (.tup [.str "0"])) p2 (.lst [.str "0"])) (a := p3) (o := .dK []))
  have w2 := get_new (u := .tup [.int 0, .int 0]) hp4 (get_new (u := .dK []) hp3 (upd_same (H := upd HA p1 (.tup [.str "0"])) (a := p2) (o := .lst [.str "0"])))
  have w1 := get_new (u := .tup [.int 0, .int 0]) hp4 (get_new (u := .dK []) hp3 (get_new (u := .lst [.str "0"]) hp2 (upd_same (H := HA) (a := p1) (o := .tup [.str "0"]))))
  have w4 : (upd (upd (upd (upd HA p1 (.tup [.str "0"])) p2 (.lst [.str "0"])) p3 (.dK [])) p4 (.tup [.int 0, .int 0])) p4 = some (.tup [.int 0, .int 0]) := upd_same
  generalize upd (upd (upd (upd HA p1 (.tup [.str "0"])) p2 (.lst [.str "0"])) p3 (.dK [])) p4 (.tup [.int 0, .int 0]) = HC at k3 w1 w2 w3 w4 ⊢
  have BC := BA.same k3
  have StC := StA'.keep k3
  have k6C := kA.trans k3.weak
  clear hp1 hp2 hp3 hp4 BA StA' kA k3
  repeat kaf_suf
  intro p5 hp5
  have k5 := Keep.alloc (M := Nil) (o := .lst [.non, .int 0, .int 1, .bl true, .ref p1, .ref p2, .ref p3, .ref p4]) hp5
  have w5 : (upd HC p5 (.lst [.non, .int 0, .int 1, .bl true, .ref p1, .ref p2, .ref p3, .ref p4])) p5 = some (.lst [.non, .int 0, .int 1, .bl true, .ref p1, .ref p2, .ref p3, .ref p4]) := upd_same
  have vs3 : ∀ {g : Addr} {o : HO}, HC g = some o → (∀ x y z : Int, o ≠ .lst [.int x, .int y, .int z]) → g ≠ s' := fun e n z => by
    obtain ⟨_, _, _, h, _⟩ := StC
    rw [z, h] at e
    injection e with e
    exact n _ _ _ e.symm
  have n1 := vs3 w1 fun _ _ _ z => by cases z
  have n2 := vs3 w2 fun _ _ _ z => by cases z
  have n3 := vs3 w3 fun _ _ _ z => by cases z
  have n4 := vs3 w4 fun _ _ _ z => by cases z
  have n5 : p5 ≠ s' := fun z => StC.some_ (z ▸ hp5)
  have hx : ∀ u : Int, 0 ≤ u → u < 8 → ∃ v, atI [V.non, .int 0, .int 1, .bl true, .ref p1, .ref p2, .ref p3, .ref p4] u = some v ∧ ∀ H', Keep (fun x => x = s') HC H' → NoS H' v := fun u u0 u1 => by
    have : u = 0 ∨ u = 1 ∨ u = 2 ∨ u = 3 ∨ u = 4 ∨ u = 5 ∨ u = 6 ∨ u = 7 := by omega
    rcases this with e | e | e | e | e | e | e | e <;> rw [e]
    · exact ⟨_, rfl, fun _ kx => .non⟩
    · exact ⟨_, rfl, fun _ kx => .int _⟩
    · exact ⟨_, rfl, fun _ kx => .int _⟩
    · exact ⟨_, rfl, fun _ kx => .bl _⟩
    · exact ⟨_, rfl, fun _ kx => .tup (kx.get n1 w1)⟩
    · exact ⟨_, rfl, fun _ kx => .lst (kx.get n2 w2)⟩
    · exact ⟨_, rfl, fun _ kx => .dic (kx.get n3 w3)⟩
    · exact ⟨_, rfl, fun _ kx => .tup (kx.get n4 w4)⟩
  have BD := BC.same k5
  have StD := StC.keep k5
  have k6D := k6C.trans k5.weak
  generalize [V.non, .int 0, .int 1, .bl true, .ref p1, .ref p2, .ref p3, .ref p4] = xs at k5 w5 hx BD StD k6D ⊢
  generalize upd HC p5 (.lst xs) = HD at k5 w5 BD StD k6D ⊢
  clear BC StC k6C w1 w2 w3 w4 hp5
  have lsK : ∀ {H1 : Hp}, StA H1 s' → ∀ x, x = s' → ∃ l, H1 x = some (.lst l) := fun S x h => by
    obtain ⟨_, _, _, e, _⟩ := S
    rw [h]; exact ⟨_, e⟩
  have fin : ∀ {H1 : Hp}, Keep (fun x => M x ∨ x = s') H6 H1 → Keep M H6 H1 := fun k x o n h => k x o (fun z => z.elim n fun z => by rw [z, s6] at h; cases h) h
  repeat kaf_suf
  refine ⟨rfl, s', 3, rfl, StD, by decide, wd_small (by decide), fun HE u kE StE u0 u1 => ?_⟩
  have BE := BD.keep kE (lsK StD) fun x h z => ns'M (z ▸ h)
  have k6E := k6D.trans (kE.mono fun x z => .inr z)
  have wE := kE.get n5 w5
  repeat kaf_suf
  refine r_ite (fun _ => ?_) (fun _ => ?_)
  rotate_left
  · repeat kaf_suf
    exact ⟨_, _, _, _, gs', ds', rfl, fin k6E, BE, LA, glA⟩
  repeat kaf_suf
  refine ⟨rfl, s', 8, rfl, StE, by decide, wd_small (by decide), fun HF o kF StF o0 o1 => ?_⟩
  have BF := BE.keep kF (lsK StE) fun x h z => ns'M (z ▸ h)
  have k6F := k6E.trans (kF.mono fun x z => .inr z)
  have wF := kF.get n5 wE
  obtain ⟨v, hv, nv⟩ := hx o o0 o1
  have nv := nv HF (fun x o n h => kF x o n (kE x o n (k5 x o (fun z => z) h)))
  repeat kaf_suf
  refine ⟨rfl, b, v, rfl, .inl nv, fun kaf_pre' kG => ?_⟩
  repeat kaf_suf
  exact ⟨_, _, _, _, gs', ds', rfl, fin (k6F.trans kG.weak), BF.same kG, LA, glA⟩

theorem ok_law {c : Cn} {mg : Str → Option Value} {base : Heap} {f : Addr} {fd : FuncData} (T : Txt c mg) (F : Fun c.K "law" "law" s_law f fd) : FnOk c.P c.w c.K mg base CX0 120 f fd ["script"] (sp_law_law c.K) :=
  F.ok (k := 119) (N := N_law) sc_law (fun vs H Q E h => h.1) (fun cdv A outer s H vs Q E hr h => ⟨t_law c, by
  exact (pss_cons (ps_set (i := 1) sc_law.nd rfl (Or.inl rfl) (e_make0 (mak_Book T) hr (by decide) pass0 rfl))
  (pss_cons (ps_set (i := 2) sc_law.nd rfl (Or.inl rfl) (e_call (cal_law_games T) hr (by decide) pass0 rfl (pa_cons (pv 0) (pa_cons pe_int (pa_cons pe_int (pa_cons pe_int pa_nil))))))
  (pss_cons (ps_set (i := 3) sc_law.nd rfl (Or.inl rfl) (e_call (cal_law_store T) hr (by decide) pass0 rfl (pa_cons (e_call (cal_law_cell T) hr (by decide) pass0 rfl (pa_cons (pv 0) (pa_cons pe_int pa_nil))) pa_nil)))
  (pss_cons (ps_expr (e_call (cal_law_more T) hr (by decide) pass0 rfl (pa_cons (pv 3) (pa_cons (pv 2) (pa_cons (e_call (cal_law_take T) hr (by decide) pass0 rfl (pa_cons (pv 3) (pa_cons pe_int pa_nil))) pa_nil)))))
  (pss_cons (ps_set (i := 4) sc_law.nd rfl (Or.inl rfl) (e_call (cal_law_texts T) hr (by decide) pass0 rfl (pa_cons (pv 2) pa_nil)))
  (pss_cons (ps_for PassesOwn.never rfl (pi_range1 rfl T.n_range (pa_cons (pe_callB (k_min rfl) (by rfl) T.n_min (by decide +kernel) (pa_cons (pe_callB (k_max rfl) (by rfl) T.n_max (by decide +kernel) (pa_cons (pe_callB k_len (by rfl) T.n_len (by decide +kernel) (pa_cons (pv 0) pa_nil)) (pa_cons pe_int pa_nil))) (pa_cons pe_int pa_nil))) pa_nil)) (pg_name (i := 5) sc_law.nd rfl (Or.inl rfl))
  (pss_cons (ps_set (i := 3) sc_law.nd rfl (Or.inl rfl) (e_call (cal_law_store T) hr (by decide) pass0 rfl (pa_cons (e_call (cal_law_cell T) hr (by decide) pass0 rfl (pa_cons (pv 0) (pa_cons (pv 5) pa_nil))) pa_nil)))
  (pss_cons (ps_set (i := 6) sc_law.nd rfl (Or.inl rfl) (e_call (cal_law_drawn T) hr (by decide) pass0 rfl (pa_cons (pv 3) (pa_cons (pv 2) (pa_cons (pv 4) pa_nil)))))
  (C8.pss_cut (ps_if (PW.pt (pw_or (pt_cmpR (o_ne (hu64 hr)) (e_call (cal_law_end T 14) hr (by decide) pass0 rfl (pa_cons (pv 6) (pa_cons pe_int (pa_cons pe_int pa_nil)))) (pe_callB k_len (by rfl) T.n_len (by decide +kernel) (pa_cons (pv 6) pa_nil)) (nomark _)) (pw_or1 (pt_cmpR (o_eq (hu64 hr)) (pv 6) pe_str (nomark _))))) (pss_one (ps_if (pt_not (p_tru (e_call (cal_law_refused T) hr (by decide) pass0 rfl (pa_cons (pv 1) (pa_cons (pv 6) pa_nil))))) (pss_one (ps_ret pe_bl)) pss_nil)) (pss_one (ps_if (pt_cmpR (o_ne (hu64 hr)) (e_call (cal_law_walked T 14) hr (by decide) pass0 rfl (pa_cons (pv 1) (pa_cons (e_call (cal_read T) hr (by decide) passL rfl (pa_cons (pv 1) (pa_cons (pv 6) pa_nil))) pa_nil))) (pv 6) (nomark _)) (pss_one (ps_ret pe_bl)) pss_nil)))
  (pss_cons (ps_set (i := 7) sc_law.nd rfl (Or.inl rfl) (pe_lst (pa_cons pe_non (pa_cons pe_int (pa_cons pe_int (pa_cons pe_bl (pa_cons (pe_tup (pa_cons pe_str pa_nil)) (pa_cons (pe_lst (pa_cons pe_str pa_nil)) (pa_cons pe_dnew (pa_cons (pe_tup (pa_cons pe_int (pa_cons pe_int pa_nil))) pa_nil))))))))))
  (pss_one (ps_if (PW.pt (pw_and (pt_cmpR (o_eq (hu64 hr)) (e_call (cal_law_take T) hr (by decide) pass0 rfl (pa_cons (pv 3) (pa_cons pe_int pa_nil))) pe_int (nomark _)) (pw_and1 (pt_not (p_tru (e_call (cal_law_refused T) hr (by decide) pass0 rfl (pa_cons (pv 1) (pa_cons (pe_ix (x_ix (hu64 hr)) (pv 7) (e_call (cal_law_take T) hr (by decide) pass0 rfl (pa_cons (pv 3) (pa_cons pe_int pa_nil))) (fun _ _ => rfl)) pa_nil)))))))) (pss_one (ps_ret pe_bl)) pss_nil)))))))
  (pss_one (ps_ret pe_bl)))))))), p_law T h⟩)
theorem all_mk {l : PySem.W.OpenLaw} {w : World} {K : PySem.W.Frag} {h : Heap} {mg : Str → Option Value} {fa : Addr} (X : K.In h) (G : h.Ns mainGlobals mg) (hfa : mg "law" = some (.ref fa))
    {aGameError aNoGame aNoText aBook : Addr}
    {tk_DEEPEST : _}
    {f_side_read : Addr} {od_side_read an_side_read : Option Addr} {sl_side_read : Array (Option Value)} {oc_side_read kV_side_read dc_side_read pm_side_read cd_side_read ct_side_read : Value}
    {f_game_read : Addr} {od_game_read an_game_read : Option Addr} {sl_game_read : Array (Option Value)} {oc_game_read kV_game_read dc_game_read pm_game_read cd_game_read ct_game_read : Value}
    {f_put_tree : Addr} {od_put_tree an_put_tree : Option Addr} {sl_put_tree : Array (Option Value)} {oc_put_tree kV_put_tree dc_put_tree pm_put_tree cd_put_tree ct_put_tree : Value}
    {f_read : Addr} {od_read an_read : Option Addr} {sl_read : Array (Option Value)} {oc_read kV_read dc_read pm_read cd_read ct_read : Value}
    {f_law_walked : Addr} {od_law_walked an_law_walked : Option Addr} {sl_law_walked : Array (Option Value)} {oc_law_walked kV_law_walked dc_law_walked pm_law_walked cd_law_walked ct_law_walked : Value}
    {f_law_games : Addr} {od_law_games an_law_games : Option Addr} {sl_law_games : Array (Option Value)} {oc_law_games kV_law_games dc_law_games pm_law_games cd_law_games ct_law_games : Value}
    {f_law_more : Addr} {od_law_more an_law_more : Option Addr} {sl_law_more : Array (Option Value)} {oc_law_more kV_law_more dc_law_more pm_law_more cd_law_more ct_law_more : Value}
    {f_law_unlike : Addr} {od_law_unlike an_law_unlike : Option Addr} {sl_law_unlike : Array (Option Value)} {oc_law_unlike kV_law_unlike dc_law_unlike pm_law_unlike cd_law_unlike ct_law_unlike : Value}
    {f_law_listed : Addr} {od_law_listed an_law_listed : Option Addr} {sl_law_listed : Array (Option Value)} {oc_law_listed kV_law_listed dc_law_listed pm_law_listed cd_law_listed ct_law_listed : Value}
    {f_law_texts : Addr} {od_law_texts an_law_texts : Option Addr} {sl_law_texts : Array (Option Value)} {oc_law_texts kV_law_texts dc_law_texts pm_law_texts cd_law_texts ct_law_texts : Value}
    {f_law_end : Addr} {od_law_end an_law_end : Option Addr} {sl_law_end : Array (Option Value)} {oc_law_end kV_law_end dc_law_end pm_law_end cd_law_end ct_law_end : Value}
    {f_law_odd : Addr} {od_law_odd an_law_odd : Option Addr} {sl_law_odd : Array (Option Value)} {oc_law_odd kV_law_odd dc_law_odd pm_law_odd cd_law_odd ct_law_odd : Value}
    {f_law_sign : Addr} {od_law_sign an_law_sign : Option Addr} {sl_law_sign : Array (Option Value)} {oc_law_sign kV_law_sign dc_law_sign pm_law_sign cd_law_sign ct_law_sign : Value}
    {f_law_spoilt : Addr} {od_law_spoilt an_law_spoilt : Option Addr} {sl_law_spoilt : Array (Option Value)} {oc_law_spoilt kV_law_spoilt dc_law_spoilt pm_law_spoilt cd_law_spoilt ct_law_spoilt : Value}
    {f_law_turned : Addr} {od_law_turned an_law_turned : Option Addr} {sl_law_turned : Array (Option Value)} {oc_law_turned kV_law_turned dc_law_turned pm_law_turned cd_law_turned ct_law_turned : Value}
    {f_law_within : Addr} {od_law_within an_law_within : Option Addr} {sl_law_within : Array (Option Value)} {oc_law_within kV_law_within dc_law_within pm_law_within cd_law_within ct_law_within : Value}
    {f_law_drawn : Addr} {od_law_drawn an_law_drawn : Option Addr} {sl_law_drawn : Array (Option Value)} {oc_law_drawn kV_law_drawn dc_law_drawn pm_law_drawn cd_law_drawn ct_law_drawn : Value}
    {f_law_refused : Addr} {od_law_refused an_law_refused : Option Addr} {sl_law_refused : Array (Option Value)} {oc_law_refused kV_law_refused dc_law_refused pm_law_refused cd_law_refused ct_law_refused : Value}
    {f_law_cell : Addr} {od_law_cell an_law_cell : Option Addr} {sl_law_cell : Array (Option Value)} {oc_law_cell kV_law_cell dc_law_cell pm_law_cell cd_law_cell ct_law_cell : Value}
    {f_law_store : Addr} {od_law_store an_law_store : Option Addr} {sl_law_store : Array (Option Value)} {oc_law_store kV_law_store dc_law_store pm_law_store cd_law_store ct_law_store : Value}
    {f_law_take : Addr} {od_law_take an_law_take : Option Addr} {sl_law_take : Array (Option Value)} {oc_law_take kV_law_take dc_law_take pm_law_take cd_law_take ct_law_take : Value}
    {f_Book_need : Addr} {od_Book_need an_Book_need : Option Addr} {sl_Book_need : Array (Option Value)} {oc_Book_need kV_Book_need dc_Book_need pm_Book_need cd_Book_need ct_Book_need : Value}
    {f_Book_game : Addr} {od_Book_game an_Book_game : Option Addr} {sl_Book_game : Array (Option Value)} {oc_Book_game kV_Book_game dc_Book_game pm_Book_game cd_Book_game ct_Book_game : Value}
    {f_Book_init : Addr} {od_Book_init an_Book_init : Option Addr} {sl_Book_init : Array (Option Value)} {oc_Book_init kV_Book_init dc_Book_init pm_Book_init cd_Book_init ct_Book_init : Value}
    {f_Book_many : Addr} {od_Book_many an_Book_many : Option Addr} {sl_Book_many : Array (Option Value)} {oc_Book_many kV_Book_many dc_Book_many pm_Book_many cd_Book_many ct_Book_many : Value}
    {f_Book_lefts : Addr} {od_Book_lefts an_Book_lefts : Option Addr} {sl_Book_lefts : Array (Option Value)} {oc_Book_lefts kV_Book_lefts dc_Book_lefts pm_Book_lefts cd_Book_lefts ct_Book_lefts : Value}
    {f_Book_rights : Addr} {od_Book_rights an_Book_rights : Option Addr} {sl_Book_rights : Array (Option Value)} {oc_Book_rights kV_Book_rights dc_Book_rights pm_Book_rights cd_Book_rights ct_Book_rights : Value}
    {f_law : Addr} {od_law an_law : Option Addr} {sl_law : Array (Option Value)} {oc_law kV_law dc_law pm_law cd_law ct_law : Value}
    (a_GameError : PySem.W.nsIn K mainGlobals "GameError" = some (some (.ref aGameError)))
    (a_NoGame : PySem.W.nsIn K mainGlobals "NoGame" = some (some (.ref aNoGame)))
    (a_NoText : PySem.W.nsIn K mainGlobals "NoText" = some (some (.ref aNoText)))
    (a_Book : PySem.W.nsIn K mainGlobals "Book" = some (some (.ref aBook)))
    (pg_Book : PySem.W.plainGet K aBook Str.empty = true)
    (hd_Book : PySem.W.hasDictIn K aBook = true)
    (po_Book : PySem.W.plainOver K aBook = true)
    (sa_Book : PySem.W.findIn K (.ref aBook) "__setattr__" = some (some (.builtin "object.__setattr__")))
    (mk_Book : PySem.W.makesIn K aBook = true)
    (kc_Book : PySem.W.keepIn K (.ref aBook) = true)
    (na_Book_depths : PySem.W.findIn K (.ref aBook) "depths" = some none)
    (na_Book_moves : PySem.W.findIn K (.ref aBook) "moves" = some none)
    (na_Book_numbers : PySem.W.findIn K (.ref aBook) "numbers" = some none)
    (xk_GameError : PySem.W.keepIn K (.ref aGameError) = true)
    (xx_GameError : PySem.W.excIn K aGameError [.type "ValueError", .type "Exception", .type "BaseException", .type "object"] "ValueError.__new__" = true)
    (xb_GameError : PySem.W.subIn K (.ref aGameError) (.type "BaseException") = some true)
    (xt_GameError : PySem.W.typeIn K (.ref aGameError) = some (.type "type"))
    (xd_GameError : PySem.W.hasDictIn K aGameError = true)
    (xs_GameError : PySem.W.subIn K (.ref aGameError) (.ref aGameError) = some true)
    (xk_NoGame : PySem.W.keepIn K (.ref aNoGame) = true)
    (xx_NoGame : PySem.W.excIn K aNoGame [.type "ValueError", .type "Exception", .type "BaseException", .type "object"] "ValueError.__new__" = true)
    (xb_NoGame : PySem.W.subIn K (.ref aNoGame) (.type "BaseException") = some true)
    (xt_NoGame : PySem.W.typeIn K (.ref aNoGame) = some (.type "type"))
    (xd_NoGame : PySem.W.hasDictIn K aNoGame = true)
    (xs_NoGame : PySem.W.subIn K (.ref aNoGame) (.ref aGameError) = some true)
    (xk_NoText : PySem.W.keepIn K (.ref aNoText) = true)
    (xx_NoText : PySem.W.excIn K aNoText [.type "ValueError", .type "Exception", .type "BaseException", .type "object"] "ValueError.__new__" = true)
    (xb_NoText : PySem.W.subIn K (.ref aNoText) (.type "BaseException") = some true)
    (xt_NoText : PySem.W.typeIn K (.ref aNoText) = some (.type "type"))
    (xd_NoText : PySem.W.hasDictIn K aNoText = true)
    (xs_NoText : PySem.W.subIn K (.ref aNoText) (.ref aGameError) = some true)
    (x_get : PySem.W.specialIn K (.builtin "object.__class__") "__get__" = some (some (.builtin "getset_descriptor.__get__")))
    (x_tak : PySem.W.takesIn K (.builtin "object.__class__") = some true)
    (ya_GameError : PySem.W.findIn K (.ref aGameError) "__getattribute__" = some (some (.builtin "BaseException.__getattribute__")))
    (yg_GameError : PySem.W.findIn K (.ref aGameError) "__getattr__" = some none)
    (yc_GameError : PySem.W.findIn K (.ref aGameError) "__class__" = some (some (.builtin "object.__class__")))
    (ym_GameError : PySem.W.mroIn K aGameError (.type "object") = some true)
    (yv_GameError : PySem.W.kitOne K (.ref aGameError) (.type "ValueError") = some true)
    (yi_GameError_GameError : PySem.W.kitOne K (.ref aGameError) (.ref aGameError) = some true)
    (yi_GameError_NoGame : PySem.W.kitOne K (.ref aGameError) (.ref aNoGame) = some false)
    (yi_GameError_NoText : PySem.W.kitOne K (.ref aGameError) (.ref aNoText) = some false)
    (ya_NoGame : PySem.W.findIn K (.ref aNoGame) "__getattribute__" = some (some (.builtin "BaseException.__getattribute__")))
    (yg_NoGame : PySem.W.findIn K (.ref aNoGame) "__getattr__" = some none)
    (yc_NoGame : PySem.W.findIn K (.ref aNoGame) "__class__" = some (some (.builtin "object.__class__")))
    (ym_NoGame : PySem.W.mroIn K aNoGame (.type "object") = some true)
    (yv_NoGame : PySem.W.kitOne K (.ref aNoGame) (.type "ValueError") = some true)
    (yi_NoGame_GameError : PySem.W.kitOne K (.ref aNoGame) (.ref aGameError) = some true)
    (yi_NoGame_NoGame : PySem.W.kitOne K (.ref aNoGame) (.ref aNoGame) = some true)
    (yi_NoGame_NoText : PySem.W.kitOne K (.ref aNoGame) (.ref aNoText) = some false)
    (ya_NoText : PySem.W.findIn K (.ref aNoText) "__getattribute__" = some (some (.builtin "BaseException.__getattribute__")))
    (yg_NoText : PySem.W.findIn K (.ref aNoText) "__getattr__" = some none)
    (yc_NoText : PySem.W.findIn K (.ref aNoText) "__class__" = some (some (.builtin "object.__class__")))
    (ym_NoText : PySem.W.mroIn K aNoText (.type "object") = some true)
    (ys_NoText : PySem.W.subIn K (.ref aNoText) (.ref aNoText) = some true)
    (yv_NoText : PySem.W.kitOne K (.ref aNoText) (.type "ValueError") = some true)
    (yi_NoText_GameError : PySem.W.kitOne K (.ref aNoText) (.ref aGameError) = some true)
    (yi_NoText_NoGame : PySem.W.kitOne K (.ref aNoText) (.ref aNoGame) = some false)
    (yi_NoText_NoText : PySem.W.kitOne K (.ref aNoText) (.ref aNoText) = some true)
    (n_ValueError : PySem.W.nsIn K mainGlobals "ValueError" = some none)
    (n_bool : PySem.W.nsIn K mainGlobals "bool" = some none)
    (n_int : PySem.W.nsIn K mainGlobals "int" = some none)
    (n_isinstance : PySem.W.nsIn K mainGlobals "isinstance" = some none)
    (n_len : PySem.W.nsIn K mainGlobals "len" = some none)
    (n_list : PySem.W.nsIn K mainGlobals "list" = some none)
    (n_max : PySem.W.nsIn K mainGlobals "max" = some none)
    (n_min : PySem.W.nsIn K mainGlobals "min" = some none)
    (n_range : PySem.W.nsIn K mainGlobals "range" = some none)
    (n_set : PySem.W.nsIn K mainGlobals "set" = some none)
    (n_sorted : PySem.W.nsIn K mainGlobals "sorted" = some none)
    (n_str : PySem.W.nsIn K mainGlobals "str" = some none)
    (n_tuple : PySem.W.nsIn K mainGlobals "tuple" = some none)
    (v_DEEPEST : PySem.W.nsIn K mainGlobals "DEEPEST" = some (some (.int 12 tk_DEEPEST)))
    (a_side_read : PySem.W.nsIn K mainGlobals "side_read" = some (some (.ref f_side_read)))
    (l_side_read : K.lookup f_side_read = some ⟨oc_side_read, od_side_read, .func (PySem.W.fnOf "side_read" "side_read" (defArgs s_side_read) (defBody s_side_read) (defScope s_side_read) .none kV_side_read dc_side_read pm_side_read an_side_read cd_side_read ct_side_read), sl_side_read⟩)
    (c_side_read : PySem.W.codeIn K cd_side_read "side_read" = true)
    (k_side_read : PySem.W.keepIn K (.ref f_side_read) = true)
    (a_game_read : PySem.W.nsIn K mainGlobals "game_read" = some (some (.ref f_game_read)))
    (l_game_read : K.lookup f_game_read = some ⟨oc_game_read, od_game_read, .func (PySem.W.fnOf "game_read" "game_read" (defArgs s_game_read) (defBody s_game_read) (defScope s_game_read) .none kV_game_read dc_game_read pm_game_read an_game_read cd_game_read ct_game_read), sl_game_read⟩)
    (c_game_read : PySem.W.codeIn K cd_game_read "game_read" = true)
    (k_game_read : PySem.W.keepIn K (.ref f_game_read) = true)
    (a_put_tree : PySem.W.nsIn K mainGlobals "put_tree" = some (some (.ref f_put_tree)))
    (l_put_tree : K.lookup f_put_tree = some ⟨oc_put_tree, od_put_tree, .func (PySem.W.fnOf "put_tree" "put_tree" (defArgs s_put_tree) (defBody s_put_tree) (defScope s_put_tree) .none kV_put_tree dc_put_tree pm_put_tree an_put_tree cd_put_tree ct_put_tree), sl_put_tree⟩)
    (c_put_tree : PySem.W.codeIn K cd_put_tree "put_tree" = true)
    (k_put_tree : PySem.W.keepIn K (.ref f_put_tree) = true)
    (a_read : PySem.W.nsIn K mainGlobals "read" = some (some (.ref f_read)))
    (l_read : K.lookup f_read = some ⟨oc_read, od_read, .func (PySem.W.fnOf "read" "read" (defArgs s_read) (defBody s_read) (defScope s_read) .none kV_read dc_read pm_read an_read cd_read ct_read), sl_read⟩)
    (c_read : PySem.W.codeIn K cd_read "read" = true)
    (k_read : PySem.W.keepIn K (.ref f_read) = true)
    (a_law_walked : PySem.W.nsIn K mainGlobals "_law_walked" = some (some (.ref f_law_walked)))
    (l_law_walked : K.lookup f_law_walked = some ⟨oc_law_walked, od_law_walked, .func (PySem.W.fnOf "_law_walked" "_law_walked" (defArgs s_law_walked) (defBody s_law_walked) (defScope s_law_walked) .none kV_law_walked dc_law_walked pm_law_walked an_law_walked cd_law_walked ct_law_walked), sl_law_walked⟩)
    (c_law_walked : PySem.W.codeIn K cd_law_walked "_law_walked" = true)
    (k_law_walked : PySem.W.keepIn K (.ref f_law_walked) = true)
    (a_law_games : PySem.W.nsIn K mainGlobals "_law_games" = some (some (.ref f_law_games)))
    (l_law_games : K.lookup f_law_games = some ⟨oc_law_games, od_law_games, .func (PySem.W.fnOf "_law_games" "_law_games" (defArgs s_law_games) (defBody s_law_games) (defScope s_law_games) .none kV_law_games dc_law_games pm_law_games an_law_games cd_law_games ct_law_games), sl_law_games⟩)
    (c_law_games : PySem.W.codeIn K cd_law_games "_law_games" = true)
    (k_law_games : PySem.W.keepIn K (.ref f_law_games) = true)
    (a_law_more : PySem.W.nsIn K mainGlobals "_law_more" = some (some (.ref f_law_more)))
    (l_law_more : K.lookup f_law_more = some ⟨oc_law_more, od_law_more, .func (PySem.W.fnOf "_law_more" "_law_more" (defArgs s_law_more) (defBody s_law_more) (defScope s_law_more) .none kV_law_more dc_law_more pm_law_more an_law_more cd_law_more ct_law_more), sl_law_more⟩)
    (c_law_more : PySem.W.codeIn K cd_law_more "_law_more" = true)
    (k_law_more : PySem.W.keepIn K (.ref f_law_more) = true)
    (a_law_unlike : PySem.W.nsIn K mainGlobals "_law_unlike" = some (some (.ref f_law_unlike)))
    (l_law_unlike : K.lookup f_law_unlike = some ⟨oc_law_unlike, od_law_unlike, .func (PySem.W.fnOf "_law_unlike" "_law_unlike" (defArgs s_law_unlike) (defBody s_law_unlike) (defScope s_law_unlike) .none kV_law_unlike dc_law_unlike pm_law_unlike an_law_unlike cd_law_unlike ct_law_unlike), sl_law_unlike⟩)
    (c_law_unlike : PySem.W.codeIn K cd_law_unlike "_law_unlike" = true)
    (k_law_unlike : PySem.W.keepIn K (.ref f_law_unlike) = true)
    (a_law_listed : PySem.W.nsIn K mainGlobals "_law_listed" = some (some (.ref f_law_listed)))
    (l_law_listed : K.lookup f_law_listed = some ⟨oc_law_listed, od_law_listed, .func (PySem.W.fnOf "_law_listed" "_law_listed" (defArgs s_law_listed) (defBody s_law_listed) (defScope s_law_listed) .none kV_law_listed dc_law_listed pm_law_listed an_law_listed cd_law_listed ct_law_listed), sl_law_listed⟩)
    (c_law_listed : PySem.W.codeIn K cd_law_listed "_law_listed" = true)
    (k_law_listed : PySem.W.keepIn K (.ref f_law_listed) = true)
    (a_law_texts : PySem.W.nsIn K mainGlobals "_law_texts" = some (some (.ref f_law_texts)))
    (l_law_texts : K.lookup f_law_texts = some ⟨oc_law_texts, od_law_texts, .func (PySem.W.fnOf "_law_texts" "_law_texts" (defArgs s_law_texts) (defBody s_law_texts) (defScope s_law_texts) .none kV_law_texts dc_law_texts pm_law_texts an_law_texts cd_law_texts ct_law_texts), sl_law_texts⟩)
    (c_law_texts : PySem.W.codeIn K cd_law_texts "_law_texts" = true)
    (k_law_texts : PySem.W.keepIn K (.ref f_law_texts) = true)
    (a_law_end : PySem.W.nsIn K mainGlobals "_law_end" = some (some (.ref f_law_end)))
    (l_law_end : K.lookup f_law_end = some ⟨oc_law_end, od_law_end, .func (PySem.W.fnOf "_law_end" "_law_end" (defArgs s_law_end) (defBody s_law_end) (defScope s_law_end) .none kV_law_end dc_law_end pm_law_end an_law_end cd_law_end ct_law_end), sl_law_end⟩)
    (c_law_end : PySem.W.codeIn K cd_law_end "_law_end" = true)
    (k_law_end : PySem.W.keepIn K (.ref f_law_end) = true)
    (a_law_odd : PySem.W.nsIn K mainGlobals "_law_odd" = some (some (.ref f_law_odd)))
    (l_law_odd : K.lookup f_law_odd = some ⟨oc_law_odd, od_law_odd, .func (PySem.W.fnOf "_law_odd" "_law_odd" (defArgs s_law_odd) (defBody s_law_odd) (defScope s_law_odd) .none kV_law_odd dc_law_odd pm_law_odd an_law_odd cd_law_odd ct_law_odd), sl_law_odd⟩)
    (c_law_odd : PySem.W.codeIn K cd_law_odd "_law_odd" = true)
    (k_law_odd : PySem.W.keepIn K (.ref f_law_odd) = true)
    (a_law_sign : PySem.W.nsIn K mainGlobals "_law_sign" = some (some (.ref f_law_sign)))
    (l_law_sign : K.lookup f_law_sign = some ⟨oc_law_sign, od_law_sign, .func (PySem.W.fnOf "_law_sign" "_law_sign" (defArgs s_law_sign) (defBody s_law_sign) (defScope s_law_sign) .none kV_law_sign dc_law_sign pm_law_sign an_law_sign cd_law_sign ct_law_sign), sl_law_sign⟩)
    (c_law_sign : PySem.W.codeIn K cd_law_sign "_law_sign" = true)
    (k_law_sign : PySem.W.keepIn K (.ref f_law_sign) = true)
    (a_law_spoilt : PySem.W.nsIn K mainGlobals "_law_spoilt" = some (some (.ref f_law_spoilt)))
    (l_law_spoilt : K.lookup f_law_spoilt = some ⟨oc_law_spoilt, od_law_spoilt, .func (PySem.W.fnOf "_law_spoilt" "_law_spoilt" (defArgs s_law_spoilt) (defBody s_law_spoilt) (defScope s_law_spoilt) .none kV_law_spoilt dc_law_spoilt pm_law_spoilt an_law_spoilt cd_law_spoilt ct_law_spoilt), sl_law_spoilt⟩)
    (c_law_spoilt : PySem.W.codeIn K cd_law_spoilt "_law_spoilt" = true)
    (k_law_spoilt : PySem.W.keepIn K (.ref f_law_spoilt) = true)
    (a_law_turned : PySem.W.nsIn K mainGlobals "_law_turned" = some (some (.ref f_law_turned)))
    (l_law_turned : K.lookup f_law_turned = some ⟨oc_law_turned, od_law_turned, .func (PySem.W.fnOf "_law_turned" "_law_turned" (defArgs s_law_turned) (defBody s_law_turned) (defScope s_law_turned) .none kV_law_turned dc_law_turned pm_law_turned an_law_turned cd_law_turned ct_law_turned), sl_law_turned⟩)
    (c_law_turned : PySem.W.codeIn K cd_law_turned "_law_turned" = true)
    (k_law_turned : PySem.W.keepIn K (.ref f_law_turned) = true)
    (a_law_within : PySem.W.nsIn K mainGlobals "_law_within" = some (some (.ref f_law_within)))
    (l_law_within : K.lookup f_law_within = some ⟨oc_law_within, od_law_within, .func (PySem.W.fnOf "_law_within" "_law_within" (defArgs s_law_within) (defBody s_law_within) (defScope s_law_within) .none kV_law_within dc_law_within pm_law_within an_law_within cd_law_within ct_law_within), sl_law_within⟩)
    (c_law_within : PySem.W.codeIn K cd_law_within "_law_within" = true)
    (k_law_within : PySem.W.keepIn K (.ref f_law_within) = true)
    (a_law_drawn : PySem.W.nsIn K mainGlobals "_law_drawn" = some (some (.ref f_law_drawn)))
    (l_law_drawn : K.lookup f_law_drawn = some ⟨oc_law_drawn, od_law_drawn, .func (PySem.W.fnOf "_law_drawn" "_law_drawn" (defArgs s_law_drawn) (defBody s_law_drawn) (defScope s_law_drawn) .none kV_law_drawn dc_law_drawn pm_law_drawn an_law_drawn cd_law_drawn ct_law_drawn), sl_law_drawn⟩)
    (c_law_drawn : PySem.W.codeIn K cd_law_drawn "_law_drawn" = true)
    (k_law_drawn : PySem.W.keepIn K (.ref f_law_drawn) = true)
    (a_law_refused : PySem.W.nsIn K mainGlobals "_law_refused" = some (some (.ref f_law_refused)))
    (l_law_refused : K.lookup f_law_refused = some ⟨oc_law_refused, od_law_refused, .func (PySem.W.fnOf "_law_refused" "_law_refused" (defArgs s_law_refused) (defBody s_law_refused) (defScope s_law_refused) .none kV_law_refused dc_law_refused pm_law_refused an_law_refused cd_law_refused ct_law_refused), sl_law_refused⟩)
    (c_law_refused : PySem.W.codeIn K cd_law_refused "_law_refused" = true)
    (k_law_refused : PySem.W.keepIn K (.ref f_law_refused) = true)
    (a_law_cell : PySem.W.nsIn K mainGlobals "_law_cell" = some (some (.ref f_law_cell)))
    (l_law_cell : K.lookup f_law_cell = some ⟨oc_law_cell, od_law_cell, .func (PySem.W.fnOf "_law_cell" "_law_cell" (defArgs s_law_cell) (defBody s_law_cell) (defScope s_law_cell) .none kV_law_cell dc_law_cell pm_law_cell an_law_cell cd_law_cell ct_law_cell), sl_law_cell⟩)
    (c_law_cell : PySem.W.codeIn K cd_law_cell "_law_cell" = true)
    (k_law_cell : PySem.W.keepIn K (.ref f_law_cell) = true)
    (a_law_store : PySem.W.nsIn K mainGlobals "_law_store" = some (some (.ref f_law_store)))
    (l_law_store : K.lookup f_law_store = some ⟨oc_law_store, od_law_store, .func (PySem.W.fnOf "_law_store" "_law_store" (defArgs s_law_store) (defBody s_law_store) (defScope s_law_store) .none kV_law_store dc_law_store pm_law_store an_law_store cd_law_store ct_law_store), sl_law_store⟩)
    (c_law_store : PySem.W.codeIn K cd_law_store "_law_store" = true)
    (k_law_store : PySem.W.keepIn K (.ref f_law_store) = true)
    (a_law_take : PySem.W.nsIn K mainGlobals "_law_take" = some (some (.ref f_law_take)))
    (l_law_take : K.lookup f_law_take = some ⟨oc_law_take, od_law_take, .func (PySem.W.fnOf "_law_take" "_law_take" (defArgs s_law_take) (defBody s_law_take) (defScope s_law_take) .none kV_law_take dc_law_take pm_law_take an_law_take cd_law_take ct_law_take), sl_law_take⟩)
    (c_law_take : PySem.W.codeIn K cd_law_take "_law_take" = true)
    (k_law_take : PySem.W.keepIn K (.ref f_law_take) = true)
    (a_Book_need : PySem.W.findIn K (.ref aBook) "need" = some (some (.ref f_Book_need)))
    (i_Book_need : PySem.W.isFn K (.ref f_Book_need) = true)
    (l_Book_need : K.lookup f_Book_need = some ⟨oc_Book_need, od_Book_need, .func (PySem.W.fnOf "need" "Book.need" (defArgs s_Book_need) (defBody s_Book_need) (defScope s_Book_need) .none kV_Book_need dc_Book_need pm_Book_need an_Book_need cd_Book_need ct_Book_need), sl_Book_need⟩)
    (c_Book_need : PySem.W.codeIn K cd_Book_need "Book.need" = true)
    (k_Book_need : PySem.W.keepIn K (.ref f_Book_need) = true)
    (a_Book_game : PySem.W.findIn K (.ref aBook) "game" = some (some (.ref f_Book_game)))
    (i_Book_game : PySem.W.isFn K (.ref f_Book_game) = true)
    (l_Book_game : K.lookup f_Book_game = some ⟨oc_Book_game, od_Book_game, .func (PySem.W.fnOf "game" "Book.game" (defArgs s_Book_game) (defBody s_Book_game) (defScope s_Book_game) .none kV_Book_game dc_Book_game pm_Book_game an_Book_game cd_Book_game ct_Book_game), sl_Book_game⟩)
    (c_Book_game : PySem.W.codeIn K cd_Book_game "Book.game" = true)
    (k_Book_game : PySem.W.keepIn K (.ref f_Book_game) = true)
    (a_Book_init : PySem.W.findIn K (.ref aBook) "__init__" = some (some (.ref f_Book_init)))
    (i_Book_init : PySem.W.isFn K (.ref f_Book_init) = true)
    (l_Book_init : K.lookup f_Book_init = some ⟨oc_Book_init, od_Book_init, .func (PySem.W.fnOf "__init__" "Book.__init__" (defArgs s_Book_init) (defBody s_Book_init) (defScope s_Book_init) .none kV_Book_init dc_Book_init pm_Book_init an_Book_init cd_Book_init ct_Book_init), sl_Book_init⟩)
    (c_Book_init : PySem.W.codeIn K cd_Book_init "Book.__init__" = true)
    (k_Book_init : PySem.W.keepIn K (.ref f_Book_init) = true)
    (a_Book_many : PySem.W.findIn K (.ref aBook) "many" = some (some (.ref f_Book_many)))
    (i_Book_many : PySem.W.isFn K (.ref f_Book_many) = true)
    (l_Book_many : K.lookup f_Book_many = some ⟨oc_Book_many, od_Book_many, .func (PySem.W.fnOf "many" "Book.many" (defArgs s_Book_many) (defBody s_Book_many) (defScope s_Book_many) .none kV_Book_many dc_Book_many pm_Book_many an_Book_many cd_Book_many ct_Book_many), sl_Book_many⟩)
    (c_Book_many : PySem.W.codeIn K cd_Book_many "Book.many" = true)
    (k_Book_many : PySem.W.keepIn K (.ref f_Book_many) = true)
    (a_Book_lefts : PySem.W.findIn K (.ref aBook) "lefts" = some (some (.ref f_Book_lefts)))
    (i_Book_lefts : PySem.W.isFn K (.ref f_Book_lefts) = true)
    (l_Book_lefts : K.lookup f_Book_lefts = some ⟨oc_Book_lefts, od_Book_lefts, .func (PySem.W.fnOf "lefts" "Book.lefts" (defArgs s_Book_lefts) (defBody s_Book_lefts) (defScope s_Book_lefts) .none kV_Book_lefts dc_Book_lefts pm_Book_lefts an_Book_lefts cd_Book_lefts ct_Book_lefts), sl_Book_lefts⟩)
    (c_Book_lefts : PySem.W.codeIn K cd_Book_lefts "Book.lefts" = true)
    (k_Book_lefts : PySem.W.keepIn K (.ref f_Book_lefts) = true)
    (a_Book_rights : PySem.W.findIn K (.ref aBook) "rights" = some (some (.ref f_Book_rights)))
    (i_Book_rights : PySem.W.isFn K (.ref f_Book_rights) = true)
    (l_Book_rights : K.lookup f_Book_rights = some ⟨oc_Book_rights, od_Book_rights, .func (PySem.W.fnOf "rights" "Book.rights" (defArgs s_Book_rights) (defBody s_Book_rights) (defScope s_Book_rights) .none kV_Book_rights dc_Book_rights pm_Book_rights an_Book_rights cd_Book_rights ct_Book_rights), sl_Book_rights⟩)
    (c_Book_rights : PySem.W.codeIn K cd_Book_rights "Book.rights" = true)
    (k_Book_rights : PySem.W.keepIn K (.ref f_Book_rights) = true)
    (a_law : PySem.W.nsIn K mainGlobals "law" = some (some (.ref f_law)))
    (l_law : K.lookup f_law = some ⟨oc_law, od_law, .func (PySem.W.fnOf "law" "law" (defArgs s_law) (defBody s_law) (defScope s_law) .none kV_law dc_law pm_law an_law cd_law ct_law), sl_law⟩)
    (c_law : PySem.W.codeIn K cd_law "law" = true)
    (k_law : PySem.W.keepIn K (.ref f_law) = true)
    : ∃ fd : FuncData, (∀ (s : Shared) (v : Value), BindsTo s fd ⟨[v], []⟩ [("script", v)]) ∧ ∀ base : Heap, K.In base → base.Ns mainGlobals mg → FnOk l.prog w K mg base CX0 120 fa fd ["script"] (sp_law_law K) := by
  have e := hfa.symm.trans (PySem.W.mg_of X G a_law)
  cases e
  let c : Cn := { P := l.prog, w := w, K := K, cGameError := aGameError, cNoGame := aNoGame, cNoText := aNoText, cBook := aBook }
  have T : Txt c mg := { n_ValueError := PySem.W.mg_none_of X G n_ValueError, n_bool := PySem.W.mg_none_of X G n_bool, n_int := PySem.W.mg_none_of X G n_int, n_isinstance := PySem.W.mg_none_of X G n_isinstance, n_len := PySem.W.mg_none_of X G n_len, n_list := PySem.W.mg_none_of X G n_list, n_max := PySem.W.mg_none_of X G n_max, n_min := PySem.W.mg_none_of X G n_min, n_range := PySem.W.mg_none_of X G n_range, n_set := PySem.W.mg_none_of X G n_set, n_sorted := PySem.W.mg_none_of X G n_sorted, n_str := PySem.W.mg_none_of X G n_str, n_tuple := PySem.W.mg_none_of X G n_tuple, g_GameError := PySem.W.mg_of X G a_GameError, g_NoGame := PySem.W.mg_of X G a_NoGame, g_NoText := PySem.W.mg_of X G a_NoText, g_Book := PySem.W.mg_of X G a_Book, g_DEEPEST := ⟨_, PySem.W.mg_of X G v_DEEPEST⟩, x_GameError := ⟨PySem.W.mg_of X G a_GameError, xx_GameError, xk_GameError, xb_GameError, xt_GameError⟩, m_GameError := PySem.W.exm_ref xb_GameError xd_GameError xt_GameError xs_GameError, x_NoGame := ⟨PySem.W.mg_of X G a_NoGame, xx_NoGame, xk_NoGame, xb_NoGame, xt_NoGame⟩, m_NoGame := PySem.W.exm_ref xb_GameError xd_GameError xt_GameError xs_NoGame, x_NoText := ⟨PySem.W.mg_of X G a_NoText, xx_NoText, xk_NoText, xb_NoText, xt_NoText⟩, m_NoText := PySem.W.exm_ref xb_GameError xd_GameError xt_GameError xs_NoText, e_GameError := ⟨ya_GameError, yg_GameError, xb_GameError, xd_GameError, yc_GameError, x_get, x_tak, ym_GameError⟩, iv_GameError := yv_GameError, i_GameError_GameError := yi_GameError_GameError, i_GameError_NoGame := yi_GameError_NoGame, i_GameError_NoText := yi_GameError_NoText, e_NoGame := ⟨ya_NoGame, yg_NoGame, xb_NoGame, xd_NoGame, yc_NoGame, x_get, x_tak, ym_NoGame⟩, iv_NoGame := yv_NoGame, i_NoGame_GameError := yi_NoGame_GameError, i_NoGame_NoGame := yi_NoGame_NoGame, i_NoGame_NoText := yi_NoGame_NoText, e_NoText := ⟨ya_NoText, yg_NoText, xb_NoText, xd_NoText, yc_NoText, x_get, x_tak, ym_NoText⟩, iv_NoText := yv_NoText, mm_NoText := PySem.W.exm_ref xb_NoText xd_NoText xt_NoText ys_NoText, i_NoText_GameError := yi_NoText_GameError, i_NoText_NoGame := yi_NoText_NoGame, i_NoText_NoText := yi_NoText_NoText, cl_Book := ⟨pg_Book, hd_Book, po_Book, sa_Book⟩, na_Book_depths := na_Book_depths, na_Book_moves := na_Book_moves, na_Book_numbers := na_Book_numbers, F_side_read := ⟨_, _, fun_mk (st := s_side_read) l_side_read c_side_read k_side_read, PySem.W.mg_of X G a_side_read, ((fun_mk (st := s_side_read) l_side_read c_side_read k_side_read).binds (ps := ["text", "at", "end", "room"]) fun _ _ _ _ _ _ us hl => match us, hl with | [_, _, _, _], _ => rfl)⟩, F_game_read := ⟨_, _, fun_mk (st := s_game_read) l_game_read c_game_read k_game_read, PySem.W.mg_of X G a_game_read, ((fun_mk (st := s_game_read) l_game_read c_game_read k_game_read).binds (ps := ["text", "at", "room"]) fun _ _ _ _ _ _ us hl => match us, hl with | [_, _, _], _ => rfl)⟩, F_put_tree := ⟨_, _, fun_mk (st := s_put_tree) l_put_tree c_put_tree k_put_tree, PySem.W.mg_of X G a_put_tree, ((fun_mk (st := s_put_tree) l_put_tree c_put_tree k_put_tree).binds (ps := ["book", "tree"]) fun _ _ _ _ _ _ us hl => match us, hl with | [_, _], _ => rfl)⟩, F_read := ⟨_, _, fun_mk (st := s_read) l_read c_read k_read, PySem.W.mg_of X G a_read, ((fun_mk (st := s_read) l_read c_read k_read).binds (ps := ["book", "text"]) fun _ _ _ _ _ _ us hl => match us, hl with | [_, _], _ => rfl)⟩, F_law_walked := ⟨_, _, fun_mk (st := s_law_walked) l_law_walked c_law_walked k_law_walked, PySem.W.mg_of X G a_law_walked, ((fun_mk (st := s_law_walked) l_law_walked c_law_walked k_law_walked).binds (ps := ["book", "g"]) fun _ _ _ _ _ _ us hl => match us, hl with | [_, _], _ => rfl)⟩, F_law_games := ⟨_, _, fun_mk (st := s_law_games) l_law_games c_law_games k_law_games, PySem.W.mg_of X G a_law_games, ((fun_mk (st := s_law_games) l_law_games c_law_games k_law_games).binds (ps := ["script", "begin", "most", "deepest"]) fun _ _ _ _ _ _ us hl => match us, hl with | [_, _, _, _], _ => rfl)⟩, F_law_more := ⟨_, _, fun_mk (st := s_law_more) l_law_more c_law_more k_law_more, PySem.W.mg_of X G a_law_more, ((fun_mk (st := s_law_more) l_law_more c_law_more k_law_more).binds (ps := ["store", "table", "rows"]) fun _ _ _ _ _ _ us hl => match us, hl with | [_, _, _], _ => rfl)⟩, F_law_unlike := ⟨_, _, fun_mk (st := s_law_unlike) l_law_unlike c_law_unlike k_law_unlike, PySem.W.mg_of X G a_law_unlike, ((fun_mk (st := s_law_unlike) l_law_unlike c_law_unlike k_law_unlike).binds (ps := ["texts"]) fun _ _ _ _ _ _ us hl => match us, hl with | [_], _ => rfl)⟩, F_law_listed := ⟨_, _, fun_mk (st := s_law_listed) l_law_listed c_law_listed k_law_listed, PySem.W.mg_of X G a_law_listed, ((fun_mk (st := s_law_listed) l_law_listed c_law_listed k_law_listed).binds (ps := ["texts"]) fun _ _ _ _ _ _ us hl => match us, hl with | [_], _ => rfl)⟩, F_law_texts := ⟨_, _, fun_mk (st := s_law_texts) l_law_texts c_law_texts k_law_texts, PySem.W.mg_of X G a_law_texts, ((fun_mk (st := s_law_texts) l_law_texts c_law_texts k_law_texts).binds (ps := ["table"]) fun _ _ _ _ _ _ us hl => match us, hl with | [_], _ => rfl)⟩, F_law_end := ⟨_, _, fun_mk (st := s_law_end) l_law_end c_law_end k_law_end, PySem.W.mg_of X G a_law_end, ((fun_mk (st := s_law_end) l_law_end c_law_end k_law_end).binds (ps := ["text", "at", "room"]) fun _ _ _ _ _ _ us hl => match us, hl with | [_, _, _], _ => rfl)⟩, F_law_odd := ⟨_, _, fun_mk (st := s_law_odd) l_law_odd c_law_odd k_law_odd, PySem.W.mg_of X G a_law_odd, ((fun_mk (st := s_law_odd) l_law_odd c_law_odd k_law_odd).binds (ps := ["at"]) fun _ _ _ _ _ _ us hl => match us, hl with | [_], _ => rfl)⟩, F_law_sign := ⟨_, _, fun_mk (st := s_law_sign) l_law_sign c_law_sign k_law_sign, PySem.W.mg_of X G a_law_sign, ((fun_mk (st := s_law_sign) l_law_sign c_law_sign k_law_sign).binds (ps := ["store"]) fun _ _ _ _ _ _ us hl => match us, hl with | [_], _ => rfl)⟩, F_law_spoilt := ⟨_, _, fun_mk (st := s_law_spoilt) l_law_spoilt c_law_spoilt k_law_spoilt, PySem.W.mg_of X G a_law_spoilt, ((fun_mk (st := s_law_spoilt) l_law_spoilt c_law_spoilt k_law_spoilt).binds (ps := ["store", "text"]) fun _ _ _ _ _ _ us hl => match us, hl with | [_, _], _ => rfl)⟩, F_law_turned := ⟨_, _, fun_mk (st := s_law_turned) l_law_turned c_law_turned k_law_turned, PySem.W.mg_of X G a_law_turned, ((fun_mk (st := s_law_turned) l_law_turned c_law_turned k_law_turned).binds (ps := ["store", "table", "texts"]) fun _ _ _ _ _ _ us hl => match us, hl with | [_, _, _], _ => rfl)⟩, F_law_within := ⟨_, _, fun_mk (st := s_law_within) l_law_within c_law_within k_law_within, PySem.W.mg_of X G a_law_within, ((fun_mk (st := s_law_within) l_law_within c_law_within k_law_within).binds (ps := ["store", "text", "many"]) fun _ _ _ _ _ _ us hl => match us, hl with | [_, _, _], _ => rfl)⟩, F_law_drawn := ⟨_, _, fun_mk (st := s_law_drawn) l_law_drawn c_law_drawn k_law_drawn, PySem.W.mg_of X G a_law_drawn, ((fun_mk (st := s_law_drawn) l_law_drawn c_law_drawn k_law_drawn).binds (ps := ["store", "table", "texts"]) fun _ _ _ _ _ _ us hl => match us, hl with | [_, _, _], _ => rfl)⟩, F_law_refused := ⟨_, _, fun_mk (st := s_law_refused) l_law_refused c_law_refused k_law_refused, PySem.W.mg_of X G a_law_refused, ((fun_mk (st := s_law_refused) l_law_refused c_law_refused k_law_refused).binds (ps := ["book", "thing"]) fun _ _ _ _ _ _ us hl => match us, hl with | [_, _], _ => rfl)⟩, F_law_cell := ⟨_, _, fun_mk (st := s_law_cell) l_law_cell c_law_cell k_law_cell, PySem.W.mg_of X G a_law_cell, ((fun_mk (st := s_law_cell) l_law_cell c_law_cell k_law_cell).binds (ps := ["script", "k"]) fun _ _ _ _ _ _ us hl => match us, hl with | [_, _], _ => rfl)⟩, F_law_store := ⟨_, _, fun_mk (st := s_law_store) l_law_store c_law_store k_law_store, PySem.W.mg_of X G a_law_store, ((fun_mk (st := s_law_store) l_law_store c_law_store k_law_store).binds (ps := ["cell"]) fun _ _ _ _ _ _ us hl => match us, hl with | [_], _ => rfl)⟩, F_law_take := ⟨_, _, fun_mk (st := s_law_take) l_law_take c_law_take k_law_take, PySem.W.mg_of X G a_law_take, ((fun_mk (st := s_law_take) l_law_take c_law_take k_law_take).binds (ps := ["store", "many"]) fun _ _ _ _ _ _ us hl => match us, hl with | [_, _], _ => rfl)⟩, F_Book_need := ⟨_, _, fun_mk (st := s_Book_need) l_Book_need c_Book_need k_Book_need, ⟨a_Book_need, i_Book_need, k_Book_need⟩, ((fun_mk (st := s_Book_need) l_Book_need c_Book_need k_Book_need).binds (ps := ["self", "g"]) fun _ _ _ _ _ _ us hl => match us, hl with | [_, _], _ => rfl)⟩, F_Book_game := ⟨_, _, fun_mk (st := s_Book_game) l_Book_game c_Book_game k_Book_game, ⟨a_Book_game, i_Book_game, k_Book_game⟩, ((fun_mk (st := s_Book_game) l_Book_game c_Book_game k_Book_game).binds (ps := ["self", "lefts", "rights"]) fun _ _ _ _ _ _ us hl => match us, hl with | [_, _, _], _ => rfl)⟩, F_Book_init := ⟨_, _, fun_mk (st := s_Book_init) l_Book_init c_Book_init k_Book_init, ⟨mk_Book, a_Book_init, i_Book_init, kc_Book⟩, ((fun_mk (st := s_Book_init) l_Book_init c_Book_init k_Book_init).binds (ps := ["self"]) fun _ _ _ _ _ _ us hl => match us, hl with | [_], _ => rfl)⟩, F_Book_many := ⟨_, _, fun_mk (st := s_Book_many) l_Book_many c_Book_many k_Book_many, ⟨a_Book_many, i_Book_many, k_Book_many⟩, ((fun_mk (st := s_Book_many) l_Book_many c_Book_many k_Book_many).binds (ps := ["self"]) fun _ _ _ _ _ _ us hl => match us, hl with | [_], _ => rfl)⟩, F_Book_lefts := ⟨_, _, fun_mk (st := s_Book_lefts) l_Book_lefts c_Book_lefts k_Book_lefts, ⟨a_Book_lefts, i_Book_lefts, k_Book_lefts⟩, ((fun_mk (st := s_Book_lefts) l_Book_lefts c_Book_lefts k_Book_lefts).binds (ps := ["self", "g"]) fun _ _ _ _ _ _ us hl => match us, hl with | [_, _], _ => rfl)⟩, F_Book_rights := ⟨_, _, fun_mk (st := s_Book_rights) l_Book_rights c_Book_rights k_Book_rights, ⟨a_Book_rights, i_Book_rights, k_Book_rights⟩, ((fun_mk (st := s_Book_rights) l_Book_rights c_Book_rights k_Book_rights).binds (ps := ["self", "g"]) fun _ _ _ _ _ _ us hl => match us, hl with | [_, _], _ => rfl)⟩ }
  exact ⟨_, fun s v => .of_eq rfl, fun base _ _ => ok_law T (fun_mk (st := s_law) l_law c_law k_law)⟩
theorem walk {l : PySem.W.OpenLaw} {q : Program} {loose : List Str} {XP : (Str → Option Value) → Heap → Prop} {YP : World → Heap → Prop} {d : DefRec} {K : Params → PySem.W.Frag} (hn : l.most = some 63) (hdf : d.params.defaults = [])
    (hY : ∀ (w : World) (h : Heap), YP w h → (K w.params).In h)
    (F : ∀ (w : World) (mg : Str → Option Value) (fa : Addr) (h : Heap), (K w.params).In h → h.Ns mainGlobals mg → mg d.name = some (.ref fa) →
      ∃ fd : FuncData, (∀ (s : Shared) (u : Value), BindsTo s fd ⟨[u], []⟩ [("script", u)]) ∧ ∀ base : Heap, (K w.params).In base → base.Ns mainGlobals mg → FnOk l.prog w (K w.params) mg base CX0 120 fa fd ["script"] (sp_law_law (K w.params))) :
    PySem.W.WalkO q loose XP YP l.row.toRowW d [] (fun f vs => PySem.call f vs) :=
  L2.walk_of (n := 63) (k := 120) (x := "script") (CX := fun _ => CX0) (sp := fun w => sp_law_law (K w.params)) hn (by decide) hdf ⟨rfl, by decide, by decide⟩ hY F (fun _ H a ns hl _ hS => ⟨rfl, a, ns, rfl, hS, hl, fun _ => rfl⟩) fun _ _ _ _ _ z => z
end Hm

open PySem PySem.W PyProof.Rows in
set_option maxRecDepth 100000 in
set_option maxHeartbeats 0 in
theorem PySem.Challenge.cw_hotmoves_k82_texts_that_write_none_holds : PySem.Challenge.rw_hotmoves_k82_texts_that_write_none.Holds := by
  w_on; o_law; k_head; (case hw => w_witness2)
  k_fill
  refine Hm.walk (l := PySem.Challenge.rw_hotmoves_k82_texts_that_write_none) rfl rfl (fun w h Y => PySem.W.kIn_of Y) ?F
  case F =>
    intro w mg fa h KX G hmg
    refine' Hm.all_mk KX G hmg ?a_GameError ?a_NoGame ?a_NoText ?a_Book ?pg_Book ?hd_Book ?po_Book ?sa_Book ?mk_Book ?kc_Book ?na_Book_depths ?na_Book_moves ?na_Book_numbers ?xk_GameError ?xx_GameError ?xb_GameError ?xt_GameError ?xd_GameError ?xs_GameError ?xk_NoGame ?xx_NoGame ?xb_NoGame ?xt_NoGame ?xd_NoGame ?xs_NoGame ?xk_NoText ?xx_NoText ?xb_NoText ?xt_NoText ?xd_NoText ?xs_NoText ?x_get ?x_tak ?ya_GameError ?yg_GameError ?yc_GameError ?ym_GameError ?yv_GameError ?yi_GameError_GameError ?yi_GameError_NoGame ?yi_GameError_NoText ?ya_NoGame ?yg_NoGame ?yc_NoGame ?ym_NoGame ?yv_NoGame ?yi_NoGame_GameError ?yi_NoGame_NoGame ?yi_NoGame_NoText ?ya_NoText ?yg_NoText ?yc_NoText ?ym_NoText ?ys_NoText ?yv_NoText ?yi_NoText_GameError ?yi_NoText_NoGame ?yi_NoText_NoText ?n_ValueError ?n_bool ?n_int ?n_isinstance ?n_len ?n_list ?n_max ?n_min ?n_range ?n_set ?n_sorted ?n_str ?n_tuple ?v_DEEPEST ?a_side_read ?l_side_read ?c_side_read ?k_side_read ?a_game_read ?l_game_read ?c_game_read ?k_game_read ?a_put_tree ?l_put_tree ?c_put_tree ?k_put_tree ?a_read ?l_read ?c_read ?k_read ?a_law_walked ?l_law_walked ?c_law_walked ?k_law_walked ?a_law_games ?l_law_games ?c_law_games ?k_law_games ?a_law_more ?l_law_more ?c_law_more ?k_law_more ?a_law_unlike ?l_law_unlike ?c_law_unlike ?k_law_unlike ?a_law_listed ?l_law_listed ?c_law_listed ?k_law_listed ?a_law_texts ?l_law_texts ?c_law_texts ?k_law_texts ?a_law_end ?l_law_end ?c_law_end ?k_law_end ?a_law_odd ?l_law_odd ?c_law_odd ?k_law_odd ?a_law_sign ?l_law_sign ?c_law_sign ?k_law_sign ?a_law_spoilt ?l_law_spoilt ?c_law_spoilt ?k_law_spoilt ?a_law_turned ?l_law_turned ?c_law_turned ?k_law_turned ?a_law_within ?l_law_within ?c_law_within ?k_law_within ?a_law_drawn ?l_law_drawn ?c_law_drawn ?k_law_drawn ?a_law_refused ?l_law_refused ?c_law_refused ?k_law_refused ?a_law_cell ?l_law_cell ?c_law_cell ?k_law_cell ?a_law_store ?l_law_store ?c_law_store ?k_law_store ?a_law_take ?l_law_take ?c_law_take ?k_law_take ?a_Book_need ?i_Book_need ?l_Book_need ?c_Book_need ?k_Book_need ?a_Book_game ?i_Book_game ?l_Book_game ?c_Book_game ?k_Book_game ?a_Book_init ?i_Book_init ?l_Book_init ?c_Book_init ?k_Book_init ?a_Book_many ?i_Book_many ?l_Book_many ?c_Book_many ?k_Book_many ?a_Book_lefts ?i_Book_lefts ?l_Book_lefts ?c_Book_lefts ?k_Book_lefts ?a_Book_rights ?i_Book_rights ?l_Book_rights ?c_Book_rights ?k_Book_rights ?a_law ?l_law ?c_law ?k_law
    (case a_GameError => k_is)
    (case a_NoGame => k_is)
    (case a_NoText => k_is)
    (case a_Book => k_is)
    (case pg_Book => k_is)
    (case hd_Book => k_is)
    (case po_Book => k_is)
    (case sa_Book => k_is)
    (case mk_Book => k_is)
    (case kc_Book => k_is)
    (case na_Book_depths => k_is)
    (case na_Book_moves => k_is)
    (case na_Book_numbers => k_is)
    (case xk_GameError => k_is)
    (case xx_GameError => k_exc)
    (case xb_GameError => k_is)
    (case xt_GameError => k_is)
    (case xd_GameError => k_is)
    (case xs_GameError => first | rfl | k_is)
    (case xk_NoGame => k_is)
    (case xx_NoGame => k_exc)
    (case xb_NoGame => k_is)
    (case xt_NoGame => k_is)
    (case xd_NoGame => k_is)
    (case xs_NoGame => first | rfl | k_is)
    (case xk_NoText => k_is)
    (case xx_NoText => k_exc)
    (case xb_NoText => k_is)
    (case xt_NoText => k_is)
    (case xd_NoText => k_is)
    (case xs_NoText => first | rfl | k_is)
    (case x_get => k_is)
    (case x_tak => k_is)
    (case ya_GameError => k_is)
    (case yg_GameError => k_is)
    (case yc_GameError => k_is)
    (case ym_GameError => k_is)
    (case yv_GameError => first | kit_is | rfl)
    (case yi_GameError_GameError => first | kit_is | rfl)
    (case yi_GameError_NoGame => first | kit_is | rfl)
    (case yi_GameError_NoText => first | kit_is | rfl)
    (case ya_NoGame => k_is)
    (case yg_NoGame => k_is)
    (case yc_NoGame => k_is)
    (case ym_NoGame => k_is)
    (case yv_NoGame => first | kit_is | rfl)
    (case yi_NoGame_GameError => first | kit_is | rfl)
    (case yi_NoGame_NoGame => first | kit_is | rfl)
    (case yi_NoGame_NoText => first | kit_is | rfl)
    (case ya_NoText => k_is)
    (case yg_NoText => k_is)
    (case yc_NoText => k_is)
    (case ym_NoText => k_is)
    (case ys_NoText => first | rfl | k_is)
    (case yv_NoText => first | kit_is | rfl)
    (case yi_NoText_GameError => first | kit_is | rfl)
    (case yi_NoText_NoGame => first | kit_is | rfl)
    (case yi_NoText_NoText => first | kit_is | rfl)
    (case n_ValueError => k_is)
    (case n_bool => k_is)
    (case n_int => k_is)
    (case n_isinstance => k_is)
    (case n_len => k_is)
    (case n_list => k_is)
    (case n_max => k_is)
    (case n_min => k_is)
    (case n_range => k_is)
    (case n_set => k_is)
    (case n_sorted => k_is)
    (case n_str => k_is)
    (case n_tuple => k_is)
    (case v_DEEPEST => k_is)
    (case a_side_read => k_is)
    (case l_side_read => k_is)
    (case c_side_read => k_is)
    (case k_side_read => k_is)
    (case a_game_read => k_is)
    (case l_game_read => k_is)
    (case c_game_read => k_is)
    (case k_game_read => k_is)
    (case a_put_tree => k_is)
    (case l_put_tree => k_is)
    (case c_put_tree => k_is)
    (case k_put_tree => k_is)
    (case a_read => k_is)
    (case l_read => k_is)
    (case c_read => k_is)
    (case k_read => k_is)
    (case a_law_walked => k_is)
    (case l_law_walked => k_is)
    (case c_law_walked => k_is)
    (case k_law_walked => k_is)
    (case a_law_games => k_is)
    (case l_law_games => k_is)
    (case c_law_games => k_is)
    (case k_law_games => k_is)
    (case a_law_more => k_is)
    (case l_law_more => k_is)
    (case c_law_more => k_is)
    (case k_law_more => k_is)
    (case a_law_unlike => k_is)
    (case l_law_unlike => k_is)
    (case c_law_unlike => k_is)
    (case k_law_unlike => k_is)
    (case a_law_listed => k_is)
    (case l_law_listed => k_is)
    (case c_law_listed => k_is)
    (case k_law_listed => k_is)
    (case a_law_texts => k_is)
    (case l_law_texts => k_is)
    (case c_law_texts => k_is)
    (case k_law_texts => k_is)
    (case a_law_end => k_is)
    (case l_law_end => k_is)
    (case c_law_end => k_is)
    (case k_law_end => k_is)
    (case a_law_odd => k_is)
    (case l_law_odd => k_is)
    (case c_law_odd => k_is)
    (case k_law_odd => k_is)
    (case a_law_sign => k_is)
    (case l_law_sign => k_is)
    (case c_law_sign => k_is)
    (case k_law_sign => k_is)
    (case a_law_spoilt => k_is)
    (case l_law_spoilt => k_is)
    (case c_law_spoilt => k_is)
    (case k_law_spoilt => k_is)
    (case a_law_turned => k_is)
    (case l_law_turned => k_is)
    (case c_law_turned => k_is)
    (case k_law_turned => k_is)
    (case a_law_within => k_is)
    (case l_law_within => k_is)
    (case c_law_within => k_is)
    (case k_law_within => k_is)
    (case a_law_drawn => k_is)
    (case l_law_drawn => k_is)
    (case c_law_drawn => k_is)
    (case k_law_drawn => k_is)
    (case a_law_refused => k_is)
    (case l_law_refused => k_is)
    (case c_law_refused => k_is)
    (case k_law_refused => k_is)
    (case a_law_cell => k_is)
    (case l_law_cell => k_is)
    (case c_law_cell => k_is)
    (case k_law_cell => k_is)
    (case a_law_store => k_is)
    (case l_law_store => k_is)
    (case c_law_store => k_is)
    (case k_law_store => k_is)
    (case a_law_take => k_is)
    (case l_law_take => k_is)
    (case c_law_take => k_is)
    (case k_law_take => k_is)
    (case a_Book_need => k_is)
    (case i_Book_need => k_is)
    (case l_Book_need => k_is)
    (case c_Book_need => k_is)
    (case k_Book_need => k_is)
    (case a_Book_game => k_is)
    (case i_Book_game => k_is)
    (case l_Book_game => k_is)
    (case c_Book_game => k_is)
    (case k_Book_game => k_is)
    (case a_Book_init => k_is)
    (case i_Book_init => k_is)
    (case l_Book_init => k_is)
    (case c_Book_init => k_is)
    (case k_Book_init => k_is)
    (case a_Book_many => k_is)
    (case i_Book_many => k_is)
    (case l_Book_many => k_is)
    (case c_Book_many => k_is)
    (case k_Book_many => k_is)
    (case a_Book_lefts => k_is)
    (case i_Book_lefts => k_is)
    (case l_Book_lefts => k_is)
    (case c_Book_lefts => k_is)
    (case k_Book_lefts => k_is)
    (case a_Book_rights => k_is)
    (case i_Book_rights => k_is)
    (case l_Book_rights => k_is)
    (case c_Book_rights => k_is)
    (case k_Book_rights => k_is)
    (case a_law => k_is)
    (case l_law => k_is)
    (case c_law => k_is)
    (case k_law => k_is)
