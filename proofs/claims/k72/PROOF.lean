import PyProof.Rows.All
import Wide.All
import OpenK.AllK
import Wide.FinOn
import HandS.ForMost
import HandS.ForExc
import HandS.Strs
import HandS.SetFor
import HandS.SortInts
import HandS.Deep
import HandS.Style
import HandS.Conv
import HandS.NoneIn
import HandS.IsInst
import HandS.Wide
import HandS.Codes
import HandS.Walk
import HandS.Zip
import HandS.StrMore
import HandS.RevRange
import HandS.Rev
import HandS.TupAny
import HandS.TupLen
import HandS.Steps
import HandS.Remove
import HandS.CallSlots
import HandS.ExcIs
import HandS.ExcValue
import KE.KDictDisplayH
import KE.KeyNested
import HandS.RaiseMore
import HandS.SortRule
import HandS.HotCalls
import HandS.ExcInitHot
import HandS.Text
import PyProof.ListStr
import HandS.Iter
import PyProof.Draws
import PySem.Challenge.RW_hotmoves_k72_floors
set_option Elab.async false
set_option linter.all false
set_option maxRecDepth 100000
set_option maxHeartbeats 4000000
/-! F1: set(list of ints); sorted of a set of any size. -/
namespace Hm
open PySem PySem.Spec PyProof.Rows L2

/-- a set as it is made -/
abbrev emptySet (w : World) : Obj := { cls := .type "set", dict := none, data := .set #[] 0 (.fresh 0 0 (!w.params.followText "set-order")) }

section
variable {P : Program} {w : World} {A : Around} {E : Value → Shared → Prop} {s : Shared}

set_option maxHeartbeats 8000000 in
theorem set_of_list {l : Addr} {xs : Array Value} (ks : List Int) {Q : Value → Shared → Prop} (calm : A.handled = none) (isL : s.heap.IsList l xs) (are : IntsAre xs.toList ks) (few : ks.length + 1 < scanBound)
    (fin : ∀ (hp : Heap) (tk n : Nat), SetR w hp s.heap.objs.size (fun j => decide (j ∈ ks)) n → n ≤ ks.length → (∀ b o, s.heap.get? b = some o → hp.get? b = some o) → Q (.ref s.heap.objs.size) { s with heap := hp, toks := tk }) :
    wpAny (model P w) A (call (.type "set") [.ref l]) Q E s := by
  have sz : xs.size = ks.length := (Array.length_toList (xs := xs)).symm.trans (IntsAre.length are)
  have made := F.called_set.made
  have sub := F.called_set.sub
  obtain ⟨c, tl, mro⟩ := F.called_set.mro
  refine wpAny_call (codeAny_of_tree ?_)
  show wpAny _ _ (callAny (.type "set") _) _ _ _
  refine wpAny_pure ⟨Code.quiet_builtin _ (by decide +kernel), codeAny_builtin F.entry_type_call ?_⟩
  rw [Around.under_plain (weight_type_call_type "set" [.ref l] []) rfl]
  have f1 := F.called_set.notType
  have f2 := F.called_set.canCreate
  have f3 := F.typeCall_set_1 (.ref l)
  repeat (any_goals (first | assumption | wp_step))
  refine codeAny_mono (code_set_led1 (.ref l) (E := E) (Q₁ := fun v t => v = .ref s.heap.objs.size ∧ t = { s with heap := s.heap.push (emptySet w) }) ⟨rfl, rfl⟩) fun r t hr => ?_
  cases r with
  | error e => exact hr
  | ok fl =>
    cases fl with
    | next => exact hr.elim
    | brk => exact hr.elim
    | cont => exact hr.elim
    | ret v =>
      obtain ⟨rfl, rfl⟩ := hr
      have at0 : (s.heap.push (emptySet w)).get? s.heap.objs.size = some (emptySet w) := Heap.get?_push_size _ rfl
      have ty0 : Shared.TypeIs { s with heap := s.heap.push (emptySet w) } (.ref s.heap.objs.size) "set" := ⟨_, at0, rfl⟩
      have i1 := F.called_set.init.lookup
      have i2 := F.called_set.init.bind (.ref s.heap.objs.size)
      repeat (any_goals (first | assumption | wp_step))
      refine codeAny_mono (codeAny_call_builtin (R := wants (fun r t => r = .none ∧ ∃ hp tk n, t = { s with heap := hp, toks := tk } ∧ SetR w hp s.heap.objs.size (fun j => decide (j ∈ ks)) n ∧ n ≤ ks.length ∧ (∀ b o, s.heap.get? b = some o → hp.get? b = some o)) E)
        F.called_set.init.plain F.entry_set_init (check_set_init_1 ty0 ?_)) fun r t hr => ?_
      · obtain ⟨⟨oc, od, odt, osl⟩, got, e1, n0, e2⟩ := isL
        simp only at e1 e2
        subst e1 e2
        have got1 : (s.heap.push (emptySet w)).get? l = some { cls := .type "list", dict := od, data := .seq xs n0, slots := osl } := Heap.get?_push_of_some _ got
        have isL1 : (s.heap.push (emptySet w)).IsList l xs := ⟨_, got1, rfl, n0, rfl⟩
        have t1 := F.sub_list_set
        have t2 := F.sub_list_frozenset
        have t3 : (Value.type "list" == Value.type "dict") = false := by decide
        unfold Builtin.«set.__init__» noKeywords Builtin.Frozenset.updateFrom
        generalize eI : pyIter = I
        wp_walk
        subst eI
        refine wpAny_pyIter_list isL1 (wpAny_bind (wpAny_runValue ?_))
        have lt : l < s.heap.objs.size := Heap.lt_size got
        have calm3 : A.in1.in1.in1.handled = none := by simp [calm]
        have sz1 : (s.heap.push (emptySet w)).objs.size = s.heap.objs.size + 1 := Heap.size_push ..
        have neI : l ≠ (s.heap.push (emptySet w)).objs.size := by rw [sz1]; exact Nat.ne_of_lt (Nat.lt_succ_of_lt lt)
        have notS : s.heap.objs.size ∉ [(s.heap.push (emptySet w)).objs.size, l] := by
          rw [sz1]; intro z; simp only [List.mem_cons, List.not_mem_nil, or_false] at z
          rcases z with z | z
          · exact Nat.ne_of_lt (Nat.lt_succ_self _) z
          · exact Nat.ne_of_gt lt z
        have each : ∀ (i : Nat) (v : Value), xs[i]? = some v → ∃ k t, ks[i]? = some k ∧ v = .int k t := fun i v hv => by
          have hi : i < ks.length := by rw [← sz]; exact (Array.getElem?_eq_some_iff.mp hv).1
          obtain ⟨t, e⟩ := PyProof.Rows.IntsAre.int_at are i v (by rw [Array.getElem?_toList]; exact hv)
          exact ⟨ks[i], t, List.getElem?_eq_getElem hi, by rw [e, List.getD_eq_getElem?_getD, List.getElem?_eq_getElem hi]; rfl⟩
        refine set_update_ints ((Walks.list calm3 _ l neI xs).toS) s.heap.objs.size notS ks sz few each (xs.size - 0) 0 _ (by omega) (Nat.zero_le _)
          ⟨⟨_, Heap.get?_push_size _ rfl, rfl, rfl⟩, (isL1.push _)⟩ ?start ?done
        case start =>
          have g : ((s.heap.push (emptySet w)).push { cls := .type "list_iterator", data := .fields #[.ref l, .int 0 0] }).get? s.heap.objs.size = some (emptySet w) := Heap.get?_push_of_some _ at0
          exact ⟨0, Nat.le_refl 0, setR_new_at g⟩
        case done =>
          rintro ⟨hp, gs, dr, tk, os⟩ n mv nle R
          cases (show gs = s.gens from mv.gens)
          cases (show dr = s.drawn from mv.drawn)
          cases (show os = s.os from mv.os)
          show wpAny _ _ _ _ _ _
          refine wpAny_pure ?_
          show wpAny _ _ (ret Value.none) _ _ _
          rw [sz] at nle
          refine wpAny_pure ⟨rfl, hp, tk, n, rfl, R, nle, fun b o e => ?_⟩
          have b0 : b < s.heap.objs.size := Heap.lt_size e
          refine mv.heap b o (fun z => ?_) (Heap.get?_push_of_some _ (Heap.get?_push_of_some _ e))
          simp only [List.mem_cons, List.not_mem_nil, or_false] at z
          rw [sz1] at z
          rcases z with z | z
          · exact Nat.ne_of_lt b0 z
          · exact Nat.ne_of_lt (Nat.lt_succ_of_lt b0) z
      · cases r with
        | error e => exact hr
        | ok fl =>
          cases fl with
          | next => exact hr.elim
          | brk => exact hr.elim
          | cont => exact hr.elim
          | ret v =>
            obtain ⟨rfl, hp, tk, n, rfl, R, nle, keep⟩ := hr
            repeat (any_goals (first | assumption | wp_step))
            exact fin _ _ _ R nle keep

/-- sorted(s) of a set of ints of any size -/
theorem sorted_of_set {a : Addr} {S : Int → Bool} {n : Nat} {Q : Value → Shared → Prop} (R : SetR w s.heap a S n) (calm : A.handled = none)
    (fin : ∀ t p (out : Array Value) (c : Nat) (ns : List Int), (∀ b o, s.heap.get? b = some o → t.heap.get? b = some o) → t.gens = s.gens → t.os = s.os → s.heap.objs.size ≤ p →
      t.heap.get? p = some (seqObj "list" out c) → IntsAre out.toList ns → ns.Pairwise (· < ·) → (∀ k, k ∈ ns ↔ S k = true) → ns.length = n → Q (.ref p) t) :
    wpAny (model P w) A (call (.builtin "sorted") [.ref a]) Q E s := by
  obtain ⟨o, es, ep, t, ho, hex, hd, good, nd, mem, few, fits, num, ris, led⟩ := R
  refine Calls.call_function_entry kind_sorted plain_sorted entry_sorted (args_sorted1 _) ?_
  unfold Builtin.«sorted»
  refine wpAny_bind (m := checkCount "sorted" 1 1 _) (wpAny_pure ?_)
  refine wpAny_bind (collect_set (A := A.in1) calm ⟨o, ho, hex.1, hd⟩ fits few ris led fun s1 vs k1 big g1 o1 pm => ?_)
  have len : vs.length = n := by rw [pm.length_eq, List.length_map, Array.length_toList]; exact num
  have areI : IntsAre vs (vs.map Builtin.Re.reRawOf) := ints_of vs fun v hv => by
    obtain ⟨e, he, q⟩ := List.mem_map.mp (pm.mem_iff.mp hv)
    obtain ⟨k, tk, h1, _⟩ := good e he
    exact ⟨k, tk, q ▸ h1⟩
  have pk : (vs.map Builtin.Re.reRawOf).Perm (es.toList.map keyOf) := by
    have q := pm.map Builtin.Re.reRawOf
    rw [List.map_map] at q
    exact q
  have line : vs.length ≤ sizeLine := by
    rw [len, sizeLine_eq]; have : scanBound = 4096 := rfl; omega
  refine wpAny_bind (wpAny_newList ?_ line)
  have at1 : (s1.heap.push (seqObj "list" vs.toArray 0)).get? s1.heap.objs.size = some (seqObj "list" vs.toArray 0) := Heap.get?_push_size _ rfl
  refine wpAny_bind (wpAny_holding (wpAny_call_entry slot_list_sort ⟨_, at1, rfl⟩ entry_list_sort
    (SrtO.list_sort_ord SrtO.swo_int at1 line (fun h2 => SrtO.ints_sortable areI h2) fun out h1 h2 => ⟨_, rfl, ?_⟩) (args_list_sort _)))
  obtain ⟨j1, j2, j3⟩ := SrtO.ints_out areI h1 h2
  obtain ⟨c, hc⟩ := sortedHeap_at (vs := vs) (out := out.toArray) at1
  have pn : (out.map SrtO.iv).Perm (es.toList.map keyOf) := j2.trans pk
  refine wpAny_pure ⟨_, rfl, fin _ s1.heap.objs.size out.toArray c (out.map SrtO.iv) (fun b u e => ?_) g1 o1 big hc (by simpa using j1) (lt_of_le_nodup _ j3 (pn.nodup_iff.mpr nd)) (fun k => by rw [pn.mem_iff, ← mem k]) ?_⟩
  · have q := k1 b u e
    have lt := Heap.lt_size q
    show (sortedHeap (s1.heap.push (seqObj "list" vs.toArray 0)) s1.heap.objs.size vs out.toArray).get? b = some u
    rw [sortedHeap_old (Nat.ne_of_lt lt) (by rw [size_push']; exact Nat.lt_succ_of_lt lt)]
    exact Heap.get?_push_of_some _ q
  · rw [pn.length_eq, List.length_map, Array.length_toList]; exact num
end

section
variable {X : Cx}
/-- set(xs), xs a list of ints -/
def uSetI (K : PySem.W.Frag) (w : World) : List V → Hp → VK → Prop := fun xs H Q => ∃ (l : Addr) (ns : List Int), xs = [.ref l] ∧ SqL K H l (ns.map V.int) ∧ ns.length ≤ 4000 ∧
  ∀ (a : Addr) (n : Nat), H a = none → n ≤ ns.length → Q (.ref a) (upd H a (SetO w a (fun j => decide (j ∈ ns)) n))
theorem cu_setI (hc : X.calm = true) : CallR X (.type "set") (uSetI X.K X.w) := by
  intro pins s σ H xs us Q I r h
  obtain ⟨l, ns, rfl, hl, few, q⟩ := h
  rw [Vals.ref1 r]
  obtain ⟨its, rv, pl, hz⟩ := I.list hl
  have hs : scanBound = 4096 := rfl
  refine set_of_list ns (I.ok.hd hc) pl.isList (by simpa using rv.ints) (by omega) fun hp tk n R nle keep => ?_
  exact ⟨.ref _, upd H s.heap.objs.size (SetO X.w s.heap.objs.size (fun j => decide (j ∈ ns)) n), I.laid (t' := tk) keep (Nat.le_refl _) (setO_new R), rfl, q _ n (I.hok.fresh (Nat.le_refl _)) nle⟩
/-- sorted(s), s a set of ints -/
def uSortSet (w : World) : List V → Hp → VK → Prop := fun vs H Q => ∃ (a : Addr) (S : Int → Bool) (n : Nat), vs = [V.ref a] ∧ H a = some (SetO w a S n) ∧
  ∀ (ns : List Int) (p : Addr), ns.Pairwise (· < ·) → (∀ k : Int, k ∈ ns ↔ S k = true) → ns.length = n → H p = none → Q (.ref p) (upd H p (.lst (ns.map V.int)))
theorem cu_sortSet (hc : X.calm = true) : CallR X (.builtin "sorted") (uSortSet X.w) := by
  intro pins s σ H vs us Q I r h
  obtain ⟨a, S, n, rfl, ha, q⟩ := h
  have R := setO_get I ha
  have nb : n ≤ 4096 := by
    obtain ⟨_, es, _, _, _, _, _, _, _, _, few, _, num, _⟩ := R
    have hs : scanBound = 4096 := rfl
    omega
  rw [Vals.ref1 r]
  refine sorted_of_set R (I.ok.hd hc) fun s' p out c ns k g o big got areI up mem len => ?_
  have line : (ns.map V.int).length ≤ sizeLine := by rw [List.length_map, len, sizeLine_eq]; omega
  have new : H p = none := I.hok.fresh big
  have J : Inv X pins σ (upd H p (.lst (ns.map V.int))) { s with heap := s'.heap, gens := s'.gens, drawn := s'.drawn, toks := s'.toks } :=
    I.call (ch := []) (Un.laid k big new) (I.hok.laid k big ⟨line, out.toList, c, vals_of_ints areI, got⟩) (by rw [g]; exact I.bare) (fun _ z => nomatch z)
  have same : s' = { s with heap := s'.heap, gens := s'.gens, drawn := s'.drawn, toks := s'.toks } := by
    cases s'; cases s; cases o; rfl
  rw [same]
  exact ⟨.ref p, _, J, rfl, q ns p up mem len new⟩
end
end Hm

/-! F1b: dicts whose keys are nested tuples of ints and texts. -/
namespace Hm
open PySem PySem.Spec PyProof.Rows L2

mutual
/-- the value v is the key k, its tuples tracked -/
def NkV (H : Hp) : NestedKey → V → Prop
  | .none, v => v = .non
  | .num i, v => v = .int i ∨ ∃ b : Bool, v = .bl b ∧ i = (if b = true then 1 else 0)
  | .text x, v => v = .str x
  | .tup ks, v => ∃ a vs, v = .ref a ∧ H a = some (.tup vs) ∧ NkVs H ks vs
def NkVs (H : Hp) : List NestedKey → List V → Prop
  | [], vs => vs = []
  | k :: ks, vs => ∃ v r, vs = v :: r ∧ NkV H k v ∧ NkVs H ks r
end
mutual
theorem NkV.keeps {H H' : Hp} (ht : ∀ b xs, H b = some (.tup xs) → H' b = some (.tup xs)) : ∀ (k : NestedKey) (v : V), NkV H k v → NkV H' k v
  | .none, _, h => by simpa only [NkV] using h
  | .num i, _, h => by simpa only [NkV] using h
  | .text x, _, h => by simpa only [NkV] using h
  | .tup ks, _, h => by
    simp only [NkV] at h ⊢
    obtain ⟨a, vs, e, ha, hs⟩ := h
    exact ⟨a, vs, e, ht _ _ ha, NkVs.keeps ht ks vs hs⟩
theorem NkVs.keeps {H H' : Hp} (ht : ∀ b xs, H b = some (.tup xs) → H' b = some (.tup xs)) : ∀ (ks : List NestedKey) (vs : List V), NkVs H ks vs → NkVs H' ks vs
  | [], _, h => by simpa only [NkVs] using h
  | k :: ks, _, h => by
    simp only [NkVs] at h ⊢
    obtain ⟨v, r, e, h1, h2⟩ := h
    exact ⟨v, r, e, NkV.keeps ht k v h1, NkVs.keeps ht ks r h2⟩
end
section
variable {P : Program} {w : World} {H : Hp} {h : Heap}
mutual
theorem nk_is (ok : HOk P w H h) : ∀ (k : NestedKey) (v : V) (u : Value), NkV H k v → RelV v u → NestedIs h k u
  | .none, _, _, e, r => by simp only [NkV] at e; subst e; cases r; exact .none
  | .num i, _, _, e, r => by
    simp only [NkV] at e
    rcases e with rfl | ⟨b, rfl, e⟩
    · obtain ⟨t, rfl⟩ := r; exact .int i t
    · cases r; exact .bool e
  | .text x, _, _, e, r => by simp only [NkV] at e; subst e; obtain ⟨t, rfl⟩ := r; exact .text x t
  | .tup ks, _, _, e, r => by
    simp only [NkV] at e
    obtain ⟨a, vs, rfl, ha, hs⟩ := e
    cases r
    obtain ⟨_, its, rv, o, h1, h2, n, h3⟩ := (show ObjOk P w H h a (.tup vs) from ok a _ ha)
    exact .tup h1 h2 h3 (by simpa using nks_are ok ks vs its hs rv)
theorem nks_are (ok : HOk P w H h) : ∀ (ks : List NestedKey) (vs : List V) (us : List Value), NkVs H ks vs → Vals vs us → NestedAll h ks us
  | [], _, _, e, r => by simp only [NkVs] at e; subst e; cases r; exact .nil
  | k :: ks, _, _, e, r => by
    simp only [NkVs] at e
    obtain ⟨v, rr, rfl, h1, h2⟩ := e
    cases r with
    | cons r1 r2 => exact .cons (nk_is ok k v _ h1 r1) (nks_are ok ks rr _ h2 r2)
end
end

/-- an entry: the key, its tuple's address, the value -/
abbrev NX := NestedKey × Addr × V
def NRel (p : NX) (q : NestedKey × Addr × Value) : Prop := p.1 = q.1 ∧ p.2.1 = q.2.1 ∧ RelV p.2.2 q.2.2
/-- the dict at a -/
def NdO (P : Program) (w : World) (a : Addr) (xs : List NX) : HO := .ext fun h => (a == sysModules) = false ∧ xs.length ≤ sizeLine ∧ ∃ ys, Paired NRel xs ys ∧
  ∃ o es ep, h.get? a = some o ∧ o.ExactDict ∧ o.data = .dict es ep ∧ es.toList = ys.map (entryOfKey (nestedKind P w)) ∧ (ys.map (·.1)).Nodup
structure NdAt (P : Program) (w : World) (H : Hp) (a : Addr) (xs : List NX) : Prop where
  here : H a = some (NdO P w a xs)
  keys : ∀ x ∈ xs, NkV H x.1 (.ref x.2.1) ∧ x.1.depth ≤ 8
def nval (xs : List NX) (k : NestedKey) : Option V := (xs.find? fun x => decide (x.1 = k)).map (·.2.2)
def nput (xs : List NX) (k : NestedKey) (a : Addr) (v : V) : List NX := if (nval xs k).isSome then xs.map fun x => if x.1 = k then (x.1, x.2.1, v) else x else xs ++ [(k, a, v)]

section
variable {P : Program} {w : World} {H H' : Hp} {h h' : Heap} {a : Addr} {xs : List NX}
theorem ndO_ok {ys : List (NestedKey × Addr × Value)} (z : (a == sysModules) = false) (l : xs.length ≤ sizeLine) (r : Paired NRel xs ys) (d : h.DictOfH (nestedKind P w) a ys) : ObjOk P w H h a (NdO P w a xs) := by
  obtain ⟨o, es, ep, e1, e2, e3, e4, e5, e6⟩ := d
  refine ⟨⟨z, l, ys, r, o, es, ep, e1, e2, e3, e4, e6⟩, ⟨o, e1⟩, fun h1 h2 q k => ?_⟩
  obtain ⟨z, l, ys, r, o, es, ep, f1, f⟩ := q
  exact ⟨z, l, ys, r, o, es, ep, k o f1, f⟩
theorem NdAt.get (ok : HOk P w H h) (N : NdAt P w H a xs) : (a == sysModules) = false ∧ xs.length ≤ sizeLine ∧ ∃ ys, Paired NRel xs ys ∧ h.DictOfH (nestedKind P w) a ys := by
  obtain ⟨⟨z, l, ys, r, o, es, ep, e1, e2, e3, e4, e6⟩, _, _⟩ := ok a _ N.here
  refine ⟨z, l, ys, r, o, es, ep, e1, e2, e3, e4, ?_, e6⟩
  have all : ∀ {l : List NX} {m : List (NestedKey × Addr × Value)}, Paired NRel l m → (∀ x ∈ l, NkV H x.1 (.ref x.2.1) ∧ x.1.depth ≤ 8) → ∀ y ∈ m, (nestedKind P w).is h y.1 y.2.1 := by
    intro l m q
    induction q with
    | nil => intro _ y hy; exact nomatch hy
    | @cons p q ps qs hq t ih =>
      intro hk y hy
      rcases List.mem_cons.mp hy with e | hy
      · subst e
        obtain ⟨k1, k2⟩ := hk p List.mem_cons_self
        rw [← hq.1, ← hq.2.1]
        exact ⟨nk_is ok p.1 _ _ k1 rfl, k2⟩
      · exact ih (fun x hx => hk x (List.mem_cons_of_mem _ hx)) y hy
  exact all r N.keys
theorem NRel.val {ys : List (NestedKey × Addr × Value)} (r : Paired NRel xs ys) (k : NestedKey) : RelO (nval xs k) ((atKey ys k).map (·.2)) := by
  induction r with
  | nil => exact True.intro
  | @cons p q ps qs hq t ih =>
    obtain ⟨h1, _, h3⟩ := hq
    by_cases e : p.1 = k
    · have e' : q.1 = k := h1.symm.trans e
      have b : atKey (q :: qs) k = some q.2 := by simp [atKey, List.find?_cons, e']
      have c : nval (p :: ps) k = some p.2.2 := by simp [nval, List.find?_cons, e]
      rw [c, b]; exact h3
    · have e' : ¬ q.1 = k := fun z => e (h1.trans z)
      have b : atKey (q :: qs) k = atKey qs k := by simp [atKey, List.find?_cons, e']
      have c : nval (p :: ps) k = nval ps k := by simp [nval, List.find?_cons, e]
      rw [c, b]; exact ih
theorem NRel.put {ys : List (NestedKey × Addr × Value)} (r : Paired NRel xs ys) (k : NestedKey) (b : Addr) {v : V} {u : Value} (rv : RelV v u) : Paired NRel (nput xs k b v) (storedH ys k b u) := by
  have e : (nval xs k).isSome = (atKey ys k).isSome := by rw [(NRel.val r k).isSome_eq, Option.isSome_map]
  unfold nput storedH
  rw [e]
  by_cases q : (atKey ys k).isSome = true
  · rw [if_pos q, if_pos q]
    clear e q
    induction r with
    | nil => exact .nil
    | @cons p q ps qs hq t ih =>
      rw [List.map_cons, List.map_cons]
      refine .cons ?_ ih
      obtain ⟨h1, h2, h3⟩ := hq
      unfold putAt
      by_cases e : p.1 = k
      · rw [if_pos e, if_pos (h1.symm.trans e)]; exact ⟨h1, h2, rv⟩
      · rw [if_neg e, if_neg (fun z => e (h1.trans z))]; exact ⟨h1, h2, h3⟩
  · rw [if_neg q, if_neg q]
    exact Paired.snoc r ⟨rfl, rfl, rv⟩
theorem nput_len (xs : List NX) (k : NestedKey) (b : Addr) (v : V) : (nput xs k b v).length ≤ xs.length + 1 := by
  unfold nput; split <;> simp
theorem nput_keys {k : NestedKey} {b : Addr} {v : V} (hk : ∀ x ∈ xs, NkV H x.1 (.ref x.2.1) ∧ x.1.depth ≤ 8) (hb : NkV H k (.ref b)) (d : k.depth ≤ 8) : ∀ x ∈ nput xs k b v, NkV H x.1 (.ref x.2.1) ∧ x.1.depth ≤ 8 := by
  intro x hx
  unfold nput at hx
  split at hx
  · obtain ⟨y, hy, e⟩ := List.mem_map.mp hx
    subst e
    split
    · exact hk y hy
    · exact hk y hy
  · rcases List.mem_append.mp hx with hx | hx
    · exact hk x hx
    · cases List.mem_singleton.mp hx; exact ⟨hb, d⟩
theorem NdAt.keep (N : NdAt P w H a xs) (ha : H' a = H a) (ht : ∀ b ys, H b = some (.tup ys) → H' b = some (.tup ys)) : NdAt P w H' a xs :=
  ⟨ha.trans N.here, fun x hx => ⟨NkV.keeps ht _ _ (N.keys x hx).1, (N.keys x hx).2⟩⟩
end

theorem nk_key {P : Program} {w : World} {H : Hp} {h : Heap} {k : NestedKey} {p : Addr} (ok : HOk P w H h) (kp : NkV H k (.ref p)) (d : k.depth ≤ 8) : (nestedKind P w).is h k p := ⟨nk_is ok k _ _ kp rfl, d⟩
section
variable {X : Cx}
/-- y in d -/
def uNIn (P : Program) (w : World) (neg : Bool) : R2 := fun y x H Q => ∃ a p k xs, x = .ref a ∧ y = .ref p ∧ NdAt P w H a xs ∧ NkV H k (.ref p) ∧ k.depth ≤ 8 ∧ Q (.bl (neg != (nval xs k).isSome)) H
theorem NdAt.isSome {P : Program} {w : World} {k : NestedKey} {xs : List NX} {ys : List (NestedKey × Addr × Value)} (r : Paired NRel xs ys) : (atKey ys k).isSome = (nval xs k).isSome := by
  rw [(NRel.val r k).isSome_eq, Option.isSome_map]
theorem ou_nin (hu : X.A.units + 64 < cLine) : OpR X (compareOp .In) (uNIn X.prog X.w false) := by
  intro pins s σ H y x v u Q I ry rx h
  obtain ⟨a, p, k, xs, rfl, rfl, N, kp, d, q⟩ := h
  cases rx; cases ry
  obtain ⟨z, l, ys, r, D⟩ := N.get I.hok
  refine wpAny_in_heap (show X.A.units + 1 + 8 < cLine by omega) (nk_key I.hok kp d) z D ?_
  rw [NdAt.isSome (P := X.prog) (w := X.w) r]
  exact ⟨.bl _, H, I.tok _, rfl, by simpa using q⟩
theorem ou_nnotin (hu : X.A.units + 64 < cLine) : OpR X (compareOp .NotIn) (uNIn X.prog X.w true) := by
  intro pins s σ H y x v u Q I ry rx h
  obtain ⟨a, p, k, xs, rfl, rfl, N, kp, d, q⟩ := h
  cases rx; cases ry
  obtain ⟨z, l, ys, r, D⟩ := N.get I.hok
  refine wpAny_notIn_heap (show X.A.units + 1 + 8 < cLine by omega) (nk_key I.hok kp d) z D ?_
  rw [NdAt.isSome (P := X.prog) (w := X.w) r]
  exact ⟨.bl _, H, I.tok _, rfl, by simpa using q⟩
/-- d[y] -/
def uNIx (P : Program) (w : World) : R2 := fun x y H Q => ∃ a p k xs v, x = .ref a ∧ y = .ref p ∧ NdAt P w H a xs ∧ NkV H k (.ref p) ∧ k.depth ≤ 8 ∧ nval xs k = some v ∧ Q v H
theorem ix_nd (hu : X.A.units + 64 < cLine) : IxR X (uNIx X.prog X.w) := by
  intro value slice pins s σ H x y v u Q I rx ry h hs
  obtain ⟨a, p, k, xs, z, rfl, rfl, N, kp, d, e, q⟩ := h
  cases rx; cases ry
  obtain ⟨_, l, ys, r, D⟩ := N.get I.hok
  obtain ⟨w', hw, rw'⟩ := RelO.some_of (v := z) (o := (atKey ys k).map (·.2)) (by rw [← e]; exact NRel.val r k)
  obtain ⟨q2, hq2, e2⟩ := Option.map_eq_some_iff.mp hw
  refine tail_any D.typeIs PySem.F.slot_dict_getitem.lookup (wpAny_getItem_heap (show X.A.units + 1 + 8 < cLine by omega) (nk_key I.hok kp d) D hq2 ?_) hs
  rw [e2]
  exact ⟨z, H, I.tok _, rw', q⟩
/-- a dict's item by int, text, or a flat tuple -/
def uDIx : R2 := fun x y H Q => ∃ a v, x = .ref a ∧ DGet H a y (some v) ∧ Q v H
theorem ix_d (hu : X.A.units + 64 < cLine) : IxR X uDIx := by
  intro value slice pins s σ H x y v u Q I rx ry h hs
  obtain ⟨a, z, rfl, g, q⟩ := h
  cases rx
  exact tail_any (dict_typeIs I g) PySem.F.slot_dict_getitem.lookup (d_getItem (by omega) I g ry fun w' s' I' rw' => ⟨z, H, I', rw', q⟩) hs
/-- y in d, keys ints, texts, flat tuples -/
def uDIn (neg : Bool) : R2 := fun y x H Q => ∃ a o, x = .ref a ∧ DGet H a y o ∧ Q (.bl (neg != o.isSome)) H
theorem ou_din (hu : X.A.units + 64 < cLine) : OpR X (compareOp .In) (uDIn false) := by
  intro pins s σ H y x v u Q I ry rx h
  obtain ⟨a, o, rfl, g, q⟩ := h
  cases rx
  exact d_in (by omega) I g ry fun s' I' => ⟨.bl _, H, I', rfl, by simpa using q⟩
theorem ou_dnotin (hu : X.A.units + 64 < cLine) : OpR X (compareOp .NotIn) (uDIn true) := by
  intro pins s σ H y x v u Q I ry rx h
  obtain ⟨a, o, rfl, g, q⟩ := h
  cases rx
  exact d_notIn (by omega) I g ry fun s' I' => ⟨.bl _, H, I', rfl, by simpa using q⟩
/-- d[y] = v -/
def uNSet (P : Program) (w : World) : V → V → V → Hp → (Hp → Prop) → Prop := fun o i v H Q => ∃ a p k xs, o = .ref a ∧ i = .ref p ∧ NdAt P w H a xs ∧ NkV H k (.ref p) ∧ k.depth ≤ 8 ∧ xs.length < sizeLine ∧ Q (upd H a (NdO P w a (nput xs k p v)))
theorem set_nd (hu : X.A.units + 64 < cLine) : PSet X (uNSet X.prog X.w) := by
  intro pins s σ H o i v ov iv u Q I ro ri rv h
  obtain ⟨a, p, k, xs, rfl, rfl, N, kp, d, few, q⟩ := h
  cases ro; cases ri
  obtain ⟨z, l, ys, r, D⟩ := N.get I.hok
  have hl : (nput xs k p v).length ≤ sizeLine := Nat.le_trans (nput_len xs k p v) few
  refine wpAny_setItem_heap (hsz := by rw [← Paired.length r]; exact l) (show X.A.units + 1 + 8 < cLine by omega) (nk_key I.hok kp d) D fun h' D' hs => ?_
  have he : ∃ q, h'.get? a = some q := let ⟨q, _, _, hq, _⟩ := D'; ⟨q, hq⟩
  exact ⟨_, d_write I (by rw [N.here]; exact True.intro) hs he (ndO_ok z hl (NRel.put r k p rv) D'), q⟩
def uDSet : V → V → V → Hp → (Hp → Prop) → Prop := fun o i v H Q => ∃ a H', o = .ref a ∧ DPut H a i v H' ∧ Q H'
theorem set_d (hu : X.A.units + 64 < cLine) : PSet X uDSet := by
  intro pins s σ H o i v ov iv u Q I ro ri rv h
  obtain ⟨a, H', rfl, g, q⟩ := h
  cases ro
  exact d_setItem (by omega) I g ri rv fun s' I' => ⟨H', I', q⟩
theorem PSet.or {X : Cx} {t t' : TSet} (h : PSet X t) (h' : PSet X t') : PSet X (fun o i v H Q => t o i v H Q ∨ t' o i v H Q) := by
  intro pins s σ H o i v ov iv u Q I ro ri rv q
  rcases q with q | q
  · exact h pins s σ H o i v ov iv u Q I ro ri rv q
  · exact h' pins s σ H o i v ov iv u Q I ro ri rv q
/-- {} with nested keys to come -/
theorem nd_empty {P : Program} {w : World} {H : Hp} (h : Heap) (hb : sysModules < h.objs.size) : ObjOk P w H (h.push { cls := .type "dict", data := .dict #[] }) h.objs.size (NdO P w h.objs.size []) :=
  ndO_ok (beq_eq_false_iff_ne.mpr (Ne.symm (Nat.ne_of_lt hb))) (Nat.zero_le _) .nil (Heap.DictOfH.new h)
def uDNew (P : Program) (w : World) : TE := fun _ H Q => (∃ kind : Bool, ∀ p, H p = none → Q (.ref p) (upd H p (if kind = true then .dK [] else NdO P w p []))) ∨ (∀ p, H p = none → Q (.ref p) (upd H p (.dT [])))
theorem pe_dnew {pos : Pos} : PE X (.Dict [] [] pos) (uDNew X.prog X.w) := ⟨fun pins s σ H Q I h => by
  rcases h with ⟨kind, q⟩ | q
  · cases kind with
    | true => exact wpAny_Dict_empty ⟨.ref s.heap.objs.size, _, I.laid (a := s.heap.objs.size) (o := .dK []) (t' := s.toks) (fun _ _ q => Heap.get?_push_of_some _ q) (Nat.le_refl _) (dk_empty s.heap I.big), rfl, q _ (I.hok.fresh (Nat.le_refl _))⟩
    | false => exact wpAny_Dict_empty ⟨.ref s.heap.objs.size, _, I.laid (a := s.heap.objs.size) (o := NdO X.prog X.w s.heap.objs.size []) (t' := s.toks) (fun _ _ q => Heap.get?_push_of_some _ q) (Nat.le_refl _) (nd_empty s.heap I.big), rfl, q _ (I.hok.fresh (Nat.le_refl _))⟩
  · exact pe_dnewT.run pins s σ H Q I q⟩
/-- {k: v} with one nested key -/
def uDisp1 (P : Program) (w : World) (tk tv : TE) : TE := fun σ H Q => ∀ p, H p = none → tk σ (upd H p (NdO P w p [])) fun x H1 => tv σ H1 fun y H2 =>
  ∃ k b, x = .ref b ∧ H2 p = some (NdO P w p []) ∧ NkV H2 k (.ref b) ∧ k.depth ≤ 8 ∧ Q (.ref p) (upd H2 p (NdO P w p [(k, b, y)]))
theorem pe_disp1 {ke ve : Expr} {tk tv : TE} {pos : Pos} (hu : X.A.units + 64 < cLine) (hk : PE X ke tk) (hv : PE X ve tv)
    (shape : (evalEachOpt [some ke] X.env).zip ((evalEach [ve] X.env).map fun v => do let x ← v; standAt pos; pure x) = [(eval ke X.env, (do let x ← eval ve X.env; standAt pos; pure x))].map fun p => (some p.1, p.2) := by rfl) :
    PE X (.Dict [some ke] [ve] pos) (uDisp1 X.prog X.w tk tv) := by
  refine ⟨fun pins s σ H Q I h => ?_⟩
  have hn := I.hok.fresh (Nat.le_refl s.heap.objs.size)
  have I1 := I.laid (a := s.heap.objs.size) (o := NdO X.prog X.w s.heap.objs.size []) (h' := s.heap.push { cls := .type "dict", data := .dict #[] }) (t' := s.toks) (fun _ _ q => Heap.get?_push_of_some _ q) (Nat.le_refl _) (nd_empty s.heap I.big)
  have h1 : PPs X pos [some ke] [ve] [(tk, tv)] := pps_cons hk hv pps_nil
  have trees : pairTrees [some ke] [ve] X.env pos = [(eval ke X.env, (do let x ← eval ve X.env; standAt pos; pure x))] := by rfl
  have run := h1.run pins _ σ _ (fun ps H2 => match ps with
    | [(x, y)] => ∃ k b, x = .ref b ∧ H2 s.heap.objs.size = some (NdO X.prog X.w s.heap.objs.size []) ∧ NkV H2 k (.ref b) ∧ k.depth ≤ 8 ∧ Q (.ref s.heap.objs.size) (upd H2 s.heap.objs.size (NdO X.prog X.w s.heap.objs.size [(k, b, y)]))
    | _ => False) I1 (h _ hn)
  rw [trees] at run
  rw [arm_eval_Dict, shape, dictDisplay_pairs _ (by simp) (by simp)]
  refine wpAny_bind (wpAny_standAt (wpAny_bind (wpAny_subDictH (knd := nestedKind X.prog X.w) (show X.A.units + 8 < cLine by omega) (by simp) (thn run fun vs s2 hh => ?_))))
  obtain ⟨ps, H2, I2, rel, q⟩ := hh
  split at q
  · rename_i x y
    obtain ⟨k, b, rfl, e, kb, d, q⟩ := q
    cases rel with
    | @cons p1 q1 ps qs rr t =>
    cases t
    obtain ⟨u1, u2⟩ := q1
    obtain ⟨r1, r2⟩ := rr
    cases (show u1 = Value.ref b from r1)
    obtain ⟨z, l, ys, rr, D⟩ := NdAt.get I2.hok (xs := []) ⟨e, fun _ hx => nomatch hx⟩
    cases rr
    refine ⟨[(k, b, u2)], ⟨rfl, rfl, nk_key I2.hok kb d, True.intro⟩, D, fun h' tk' D' hs => wpAny_pure ⟨.ref s.heap.objs.size, _, ?_, rfl, q⟩⟩
    have he : ∃ q, h'.get? s.heap.objs.size = some q := let ⟨q, _, _, hq, _⟩ := D'; ⟨q, hq⟩
    exact d_write I2 (by rw [e]; exact True.intro) hs he (ndO_ok (ys := [(k, b, u2)]) z (by rw [sizeLine_eq]; exact (by decide : (1 : Nat) ≤ 16777216)) (.cons ⟨rfl, rfl, r2⟩ .nil) D')
  · exact q.elim
end
/-! sorted(t), t a tuple of ints -/
section
open PyProof.Rows
variable {P : Program} {w : World} {A : Around} {E : Value → Shared → Prop} {s : Shared}
theorem collect_tup {l : Addr} {vs : List Value} {Q : List Value → Shared → Prop} (hl : s.heap.IsTuple l vs.toArray) (hsz : vs.length ≤ sizeLine)
    (h : Q vs { s with heap := (s.heap.push (seqObj "list" #[] 0)).update s.heap.objs.size (Obj.mapSeq (· ++ vs.toArray)) }) :
    wpAny (model P w) A (collect (.ref l)) Q E s := by
  obtain ⟨o, ho, hc, n, hd⟩ := id hl
  unfold collect
  refine wpAny_bind (wpAny_runValue (codeAny_builtin entry_proto_collect' ?_))
  show wpAny _ _ (do again (.builtin "list.__iadd__" ⟨[← newList [], .ref l], []⟩)) _ _ s
  refine wpAny_bind (wpAny_newList (wpAny_pure ⟨Code.quiet_builtin _ (by decide +kernel), codeAny_builtin entry_list_iadd' ?_⟩))
  show wpAny _ _ (Builtin.List.listExtendWith (.ref s.heap.objs.size) (.ref l) (.ref s.heap.objs.size)) _ _ { s with heap := s.heap.push (seqObj "list" #[] 0) }
  unfold Builtin.List.listExtendWith
  have ho' : (s.heap.push (seqObj "list" #[] 0)).get? l = some o := Heap.get?_push_of_some _ ho
  refine wpAny_bind (wpAny_typeOf (T := "tuple") ⟨o, ho', hc⟩ ?_)
  have ht : (Value.type "tuple" == Value.type "tuple") = true := by rfl
  rw [if_pos (by rw [ht]; simp)]
  refine wpAny_bind (listItems_at ho' hd ?_)
  refine wpAny_bind (listItems_at (xs := #[]) (n := 0) (Heap.get?_push_size _ rfl) rfl ?_)
  rw [if_neg (by simp)]
  refine wpAny_bind (listUpdate_at (xs := #[]) (n := 0) (Heap.get?_push_size _ rfl) rfl ?_ (Nat.zero_le _) (by show (#[] ++ vs.toArray).size ≤ sizeLine + 1; simp only [Array.size_append, List.size_toArray, List.length_nil]; omega))
  refine wpAny_pure ?_
  show wpAny (model P w) A (do
      let o ← load s.heap.objs.size
      match o.data with
      | .seq xs _ => pure xs.toList
      | _ => unsupported "internal:collect") Q E { s with heap := (s.heap.push (seqObj "list" #[] 0)).update s.heap.objs.size (Obj.mapSeq (· ++ vs.toArray)) }
  refine wpAny_bind (wpAny_load (get?_update_seq (Heap.get?_push_size _ rfl) _) ?_)
  show wpAny _ _ (pure ((#[] : Array Value) ++ vs.toArray).toList) Q E _
  rw [show ((#[] : Array Value) ++ vs.toArray).toList = vs by simp]
  exact wpAny_pure h
theorem sorted_of_tup {l : Addr} {vs : List Value} {ns : List Int} {Q : Value → Shared → Prop} (hl : s.heap.IsTuple l vs.toArray) (hsz : vs.length ≤ sizeLine) (areI : IntsAre vs ns)
    (fin : ∀ (h' : Heap) (p : Addr) (out : Array Value) (c : Nat) (ns' : List Int), (∀ b o, s.heap.get? b = some o → h'.get? b = some o) → s.heap.objs.size ≤ p → h'.get? p = some (seqObj "list" out c) → IntsAre out.toList ns' → ns'.Perm ns → ns'.Pairwise (· ≤ ·) → Q (.ref p) { s with heap := h' }) :
    wpAny (model P w) A (call (.builtin "sorted") [.ref l]) Q E s := by
  refine Calls.call_function_entry kind_sorted plain_sorted entry_sorted (args_sorted1 _) ?_
  unfold Builtin.«sorted»
  refine wpAny_bind (m := checkCount "sorted" 1 1 _) (wpAny_pure ?_)
  refine wpAny_bind (collect_tup hl hsz ?_)
  have k1 : ∀ b o, s.heap.get? b = some o → ((s.heap.push (seqObj "list" #[] 0)).update s.heap.objs.size (Obj.mapSeq (· ++ vs.toArray))).get? b = some o := fun b o q => by
    rw [Heap.get?_update_ne _ _ _ _ (Nat.ne_of_lt (Heap.lt_size q))]
    exact Heap.get?_push_of_some _ q
  have big : s.heap.objs.size ≤ ((s.heap.push (seqObj "list" #[] 0)).update s.heap.objs.size (Obj.mapSeq (· ++ vs.toArray))).objs.size := by
    rw [Heap.size_update, size_push']; omega
  generalize (s.heap.push (seqObj "list" #[] 0)).update s.heap.objs.size (Obj.mapSeq (· ++ vs.toArray)) = h1 at k1 big ⊢
  refine wpAny_bind (wpAny_newList ?_ hsz)
  have at1 : (h1.push (seqObj "list" vs.toArray 0)).get? h1.objs.size = some (seqObj "list" vs.toArray 0) := Heap.get?_push_size _ rfl
  refine wpAny_bind (wpAny_holding (wpAny_call_entry slot_list_sort ⟨_, at1, rfl⟩ entry_list_sort
    (SrtO.list_sort_ord SrtO.swo_int at1 hsz (fun h2 => SrtO.ints_sortable areI h2) fun out z1 z2 => ⟨_, rfl, ?_⟩) (args_list_sort _)))
  obtain ⟨j1, j2, j3⟩ := SrtO.ints_out areI z1 z2
  obtain ⟨c, hc⟩ := sortedHeap_at (vs := vs) (out := out.toArray) at1
  refine wpAny_pure ⟨_, rfl, fin _ h1.objs.size out.toArray c (out.map SrtO.iv) (fun b u e => ?_) big hc (by simpa using j1) j2 j3⟩
  have q := k1 b u e
  have lt := Heap.lt_size q
  rw [sortedHeap_old (Nat.ne_of_lt lt) (by rw [size_push']; exact Nat.lt_succ_of_lt lt)]
  exact Heap.get?_push_of_some _ q
end
section
variable {X : Cx}
def rSortTup (K : PySem.W.Frag) : List V → Hp → VK → Prop := fun xs H Q => ∃ (l : Addr) (ns : List Int), xs = [.ref l] ∧ SqT K H l (ns.map V.int) ∧
  ∀ (ns' : List Int) (p : Addr), ns'.Perm ns → ns'.Pairwise (· ≤ ·) → H p = none → Q (.ref p) (upd H p (.lst (ns'.map V.int)))
theorem cu_sortTup : CallR X (.builtin "sorted") (rSortTup X.K) := by
  intro pins s σ H vs us Q I r h
  obtain ⟨l, ns, rfl, hq, q⟩ := h
  rw [Vals.ref1 r]
  obtain ⟨its, rv, p, hz⟩ := I.tuple hq
  have areI : IntsAre its ns := rv.ints
  refine sorted_of_tup (show s.heap.IsTuple l its.toArray from p) (by rw [← rv.length]; exact hz) areI fun h' p' out c ns' k big got a1 a2 a3 => ?_
  have line : (ns'.map V.int).length ≤ sizeLine := by rw [List.length_map, a2.length_eq]; rw [List.length_map] at hz; exact hz
  have new : H p' = none := I.hok.fresh big
  exact ⟨.ref p', upd H p' (.lst (ns'.map V.int)), I.laid (t' := s.toks) k big ⟨line, out.toList, c, vals_of_ints a1, got⟩, rfl, q ns' p' a2 a3 new⟩
/-- sorted(d), d a dict whose keys are ints, of any size -/
def uSortDict : List V → Hp → VK → Prop := fun xs H Q => ∃ (a : Addr) (kvs : List (L2.Key × V)) (ks : List Int), xs = [.ref a] ∧ H a = some (.dK kvs) ∧ kvs.map (·.1) = ks.map Sum.inl ∧
  ∀ (ys : List Int) (p : Addr), ys.Perm ks → ys.Pairwise (· ≤ ·) → H p = none → Q (.ref p) (upd H p (.lst (ys.map V.int)))
theorem ints_each' : ∀ {us : List Value} {ks : List Int}, us.length = ks.length → (∀ (j : Nat) (v : Value), us[j]? = some v → ∃ (x : Int) (t : _), ks[j]? = some x ∧ v = .int x t) → IntsAre us ks
  | [], [], _, _ => .nil
  | u :: us, k :: ks, hl, h => by
    obtain ⟨x, t, e1, e2⟩ := h 0 u rfl
    have e1' : k = x := Option.some.inj e1
    subst e1'
    subst e2
    refine .cons _ _ (ints_each' (by simpa using hl) fun j v e => ?_)
    obtain ⟨x, t, a, b⟩ := h (j + 1) v (by simpa using e)
    exact ⟨x, t, by simpa using a, b⟩
  | [], _ :: _, hl, _ => by simp at hl
  | _ :: _, [], hl, _ => by simp at hl
theorem cu_sortDict (hcalm : X.calm = true) : CallR X (.builtin "sorted") uSortDict := by
  intro pins s σ H xs us Q I r q
  obtain ⟨a, kvs, ks, rfl, hd, hks, q⟩ := q
  rw [Vals.ref1 r]
  obtain ⟨z, lo, vs, rel, dd⟩ := dk_rd I.hok (.inl hd)
  obtain ⟨ep, hat⟩ := dd.dictAt
  have hkeys : vs.map (·.1) = ks.map Sum.inl := rel.keys.symm.trans hks
  have hl : vs.length = ks.length := by
    have e := congrArg List.length hkeys
    rw [List.length_map, List.length_map] at e
    exact e
  have h16 : vs.length ≤ sizeLine := by rw [← rel.length]; exact z
  refine Calls.call_function_entry kind_sorted plain_sorted entry_sorted (args_sorted1 _) ?_
  unfold Builtin.«sorted»
  refine wpAny_bind (m := checkCount "sorted" 1 1 _) (wpAny_pure ?_)
  refine wpAny_bind (PySem.W.kdu_collect (A := X.A.in1) (PySem.W.kdl_dict (knd := mixKind X.prog X.w) (kvs := vs) (ep := ep) lo) (I.ok.hd hcalm) hat h16 fun h' tk acc hk hacc => ?_)
  have hal : acc.toList.length = ks.length := by rw [Array.length_toList, hacc.1, hl]
  have areI : IntsAre acc.toList ks := ints_each' hal fun j v e => by
    obtain ⟨k, x, e1, e2⟩ := hacc.2 j v (by rw [← Array.getElem?_toList]; exact e)
    have e3 : (vs.map (·.1))[j]? = some k := by rw [List.getElem?_map, e1]; rfl
    rw [hkeys, List.getElem?_map] at e3
    cases e4 : ks[j]? with
    | none => rw [e4] at e3; cases e3
    | some y =>
      rw [e4] at e3
      have e5 : Sum.inl y = k := Option.some.inj e3
      subst e5
      rcases keyIs_shape (show keyIs (Sum.inl y) v = true from e2) with ⟨i, t, ek, ev⟩ | ⟨z, t, ek, ev⟩
      · cases ek
        exact ⟨y, t, rfl, ev⟩
      · cases ek
  have I1 : Inv X pins σ H { s with heap := h', toks := tk } := I.kept hk
  have hal2 : acc.toList.length ≤ sizeLine := by rw [hal, ← hl]; exact h16
  refine wpAny_bind (wpAny_newList ?_ hal2)
  have at1 : (h'.push (seqObj "list" acc.toList.toArray 0)).get? h'.objs.size = some (seqObj "list" acc.toList.toArray 0) := Heap.get?_push_size _ rfl
  show wpAny _ _ _ _ _ { s with heap := h'.push (seqObj "list" acc.toList.toArray 0), toks := tk }
  refine wpAny_bind (wpAny_holding (wpAny_call_entry slot_list_sort ⟨_, at1, rfl⟩ entry_list_sort
    (SrtO.list_sort_ord SrtO.swo_int (s := { s with heap := h'.push (seqObj "list" acc.toList.toArray 0), toks := tk }) at1 hal2 (fun h2 => SrtO.ints_sortable areI h2) fun out z1 z2 => ⟨_, rfl, ?_⟩) (args_list_sort _)))
  obtain ⟨j1, j2, j3⟩ := SrtO.ints_out areI z1 z2
  obtain ⟨c, hc⟩ := sortedHeap_at (vs := acc.toList) (out := out.toArray) at1
  have hlen : ((out.map SrtO.iv).map V.int).length ≤ sizeLine := by
    rw [List.length_map, j2.length_eq, ← hl]; exact h16
  refine wpAny_pure ⟨_, rfl, .ref h'.objs.size, upd H h'.objs.size (.lst ((out.map SrtO.iv).map V.int)), I1.laid (t' := tk) (fun b u e => ?_) (Nat.le_refl _)
    (show ObjOk X.prog X.w _ _ _ (.lst ((out.map SrtO.iv).map V.int)) from ⟨hlen, out, c, vals_of_ints j1, hc⟩), rfl, q _ _ j2 j3 (I1.hok.fresh (Nat.le_refl _))⟩
  have hb : b < h'.objs.size := Heap.lt_size e
  rw [sortedHeap_old (Nat.ne_of_lt hb) (by rw [size_push']; exact Nat.lt_succ_of_lt hb)]
  exact Heap.get?_push_of_some _ e
end
end Hm

/-! F2: rules by syntax alone (each a choice by values), and their readings. -/
namespace Hm
open PySem PySem.Spec PyProof.Rows L2

/-! ### choices by values -/
def bAdd (K : PySem.W.Frag) : R2 := fun x y H Q => rI0 (fun i j => .int (i + j)) x y H Q ∨ rCat x y H Q ∨
  (∃ i j, x = .str i ∧ y = .str j ∧ i.length + j.length ≤ sizeLine ∧ Q (.str (i ++ j)) H) ∨ rCatA K x y H Q
def bSub : R2 := rI0 fun i j => .int (i - j)
def bMul : R2 := fun x y H Q => rI CMul (fun i j => .int (i * j)) x y H Q ∨ rI CMulW (fun i j => .int (i * j)) x y H Q ∨ rRep x y H Q
def bMod : R2 := rI (fun _ j => 0 < j) fun i j => .int (i % j)
def bDiv : R2 := fun x y H Q => rI CDiv (fun i j => .int (i / j)) x y H Q ∨ rI CDivW (fun i j => .int (i / j)) x y H Q
def bPow : R2 := rI CPow fun i j => .int (i ^ j.toNat)
def bAnd : R2 := rI0 fun i j => .int (Builtin.bitAnd i j)
def bXor : R2 := rI0 fun i j => .int (Builtin.bitXor i j)
def cEq (K : PySem.W.Frag) : R2 := fun x y H Q => rEq x y H Q ∨ rEqD K x y H Q
def cNe (K : PySem.W.Frag) : R2 := fun x y H Q => rNe x y H Q ∨ rNeD K x y H Q
def cLt (K : PySem.W.Frag) : R2 := fun x y H Q => rI0 (fun i j => .bl (decide (i < j))) x y H Q ∨
  (∃ i j, x = .str i ∧ y = .str j ∧ Q (.bl (decide (i.cps.toList < j.cps.toList))) H) ∨ rLtT K x y H Q
def cLe : R2 := rI0 fun i j => .bl (decide (i ≤ j))
def cGt : R2 := rI0 fun i j => .bl (decide (j < i))
def cGe : R2 := rI0 fun i j => .bl (decide (j ≤ i))
def cIs : R2 := fun x y H Q => (y = .non ∧ Q (.bl (decide (x = .non))) H) ∨ rIsB x y H Q
def cIsNot : R2 := fun x y H Q => (y = .non ∧ Q (.bl (!decide (x = .non))) H) ∨ rNotB x y H Q
def cIn (P : Program) (w : World) (K : PySem.W.Frag) : R2 := fun x y H Q => rIn K false x y H Q ∨ rInD K x y H Q ∨ rInS x y H Q ∨ uDIn false x y H Q ∨ uNIn P w false x y H Q
def cNotIn (P : Program) (w : World) (K : PySem.W.Frag) : R2 := fun x y H Q => rIn K true x y H Q ∨ rNotInD K x y H Q ∨ rNotInS x y H Q ∨ uDIn true x y H Q ∨ uNIn P w true x y H Q
def bIx (P : Program) (w : World) (K : PySem.W.Frag) : R2 := fun x y H Q => rIxL K x y H Q ∨ rIxT K x y H Q ∨ rIxS x y H Q ∨ uDIx x y H Q ∨ uNIx P w x y H Q
def bSet (P : Program) (w : World) : TSet := fun o i v H Q => rSetL o i v H Q ∨ uDSet o i v H Q ∨ uNSet P w o i v H Q
def kLen (K : PySem.W.Frag) : List V → Hp → VK → Prop := fun xs H Q => (∃ x n, xs = [x] ∧ LenV K x H n ∧ Q (.int n) H) ∨ (∃ a kvs, xs = [V.ref a] ∧ H a = some (.dK kvs) ∧ Q (.int kvs.length) H)
def kList (K : PySem.W.Frag) : List V → Hp → VK → Prop := fun xs H Q => (∃ p ys, xs = [.ref p] ∧ (SqL K H p ys ∨ SqT K H p ys) ∧ ∀ l, H l = none → Q (.ref l) (upd H l (.lst ys))) ∨ rListD xs H Q
def kTuple (K : PySem.W.Frag) : List V → Hp → VK → Prop := fun xs H Q => ∃ p ys, xs = [.ref p] ∧ ((SqL K H p ys ∧ ∀ l, H l = none → Q (.ref l) (upd H l (.tup ys))) ∨ (SqT K H p ys ∧ Q (.ref p) H))
def kSorted (K : PySem.W.Frag) (w : World) : List V → Hp → VK → Prop := fun xs H Q => rSortedI K xs H Q ∨ uSortSet w xs H Q ∨ rSortTup K xs H Q ∨ uSortDict xs H Q
def kMax (K : PySem.W.Frag) : List V → Hp → VK → Prop := fun xs H Q => (∃ i j, xs = [.int i, .int j] ∧ Q (.int (if j > i then j else i)) H) ∨ rMax K xs H Q
def kMin (K : PySem.W.Frag) : List V → Hp → VK → Prop := fun xs H Q => (∃ i j, xs = [.int i, .int j] ∧ Q (.int (if j < i then j else i)) H) ∨ rMin K xs H Q
def kAbs : List V → Hp → VK → Prop := fun xs H Q => ∃ i, xs = [.int i] ∧ Q (.int (if i < 0 then -i else i)) H
def kInt : List V → Hp → VK → Prop := fun xs H Q => (∃ i, xs = [.int i] ∧ Q (.int i) H) ∨ ∃ k, xs = [.bl k] ∧ Q (.int (if k then 1 else 0)) H
def tTru (K : PySem.W.Frag) (ta : TE) : TT := fun σ H Q => ta σ H fun x H' => ∃ k, TruV K x H' k ∧ Q k H'
def bSl (K : PySem.W.Frag) : V → Option Int → Option Int → Hp → VK → Prop := fun x lo hi H Q => rSlL K x lo hi H Q ∨ rSlA K x lo hi H Q
/-- (a, b) = a tuple or a list of that length -/
def gSeq (K : PySem.W.Frag) (n : Nat) (t : TGs) : TG := fun v σ H Q => gTup K n t v σ H Q ∨ gUnl K n t v σ H Q
def kInsert : V → List V → Hp → VK → Prop := fun x vs H Q => ∃ (l : Addr) (xs : List V) (i : Int) (y : V), x = .ref l ∧ vs = [.int i, y] ∧ H l = some (.lst xs) ∧ xs.length < sizeLine ∧ 0 ≤ i ∧ i < 2 ^ 63 ∧
    Q .non (upd H l (.lst (xs.take i.toNat ++ [y] ++ xs.drop i.toNat)))
def kIndex (K : PySem.W.Frag) : V → List V → Hp → VK → Prop := fun x xs H Q => rIndex K x xs H Q ∨ rIndexD K x xs H Q

def rTupIndex (K : PySem.W.Frag) : V → List V → Hp → VK → Prop := fun x xs H Q => ∃ p, ∃ ys : List Str, ∃ z j, x = .ref p ∧ xs = [.str z] ∧ SqT K H p (ys.map V.str) ∧ ys[j]? = some z ∧ (∀ m, m < j → ys[m]? ≠ some z) ∧ Q (.int (j : Nat)) H

section
variable {X : Cx}
theorem hu64 {k : Nat} {A : Around} (hr : Room k A) : A.units + 64 < cLine := hr.units
theorem hu1 {k : Nat} {A : Around} (hr : Room k A) : A.units + 1 < cLine := by have := hr.un; omega
theorem hu65 {k : Nat} {A : Around} (hr : Room k A) : A.units + 65 < cLine := by have := hr.un; omega
theorem o_add : OpR X (binaryOp .Add) (bAdd X.K) := op_add.or (op_cat.or (op_add_str.or op_catA))
theorem o_sub : OpR X (binaryOp .Sub) bSub := op_sub
theorem o_mul : OpR X (binaryOp .Mult) bMul := op_mul.or (op_mulW.or op_rep)
theorem o_mod : OpR X (binaryOp .Mod) bMod := op_mod
theorem o_div : OpR X (binaryOp .FloorDiv) bDiv := op_fdiv.or op_fdivW
theorem o_pow : OpR X (binaryOp .Pow) bPow := op_pow
theorem o_and : OpR X (binaryOp .BitAnd) bAnd := op_and
theorem o_xor : OpR X (binaryOp .BitXor) bXor := op_xor
theorem o_eq (hu : X.A.units + 64 < cLine) : OpR X (compareOp .Eq) (cEq X.K) := op_eq.or (op_eqD hu)
theorem o_ne (hu : X.A.units + 64 < cLine) : OpR X (compareOp .NotEq) (cNe X.K) := op_ne.or (op_neD hu)
theorem o_lt (hu : X.A.units + 64 < cLine) : OpR X (compareOp .Lt) (cLt X.K) := op_lt.or (op_lt_str.or (op_ltT (by omega)))
theorem o_le : OpR X (compareOp .LtE) cLe := op_le
theorem o_gt : OpR X (compareOp .Gt) cGt := op_gt
theorem o_ge : OpR X (compareOp .GtE) cGe := op_ge
theorem o_is : OpR X (compareOp .Is) cIs := op_isN.or op_isBl
theorem o_isnot : OpR X (compareOp .IsNot) cIsNot := op_notN.or op_notBl
theorem o_in (hu : X.A.units + 65 < cLine) : OpR X (compareOp .In) (cIn X.prog X.w X.K) := op_in_seq.or ((op_inD hu).or (op_inS.or ((ou_din (by omega)).or (ou_nin (by omega)))))
theorem o_notin (hu : X.A.units + 65 < cLine) : OpR X (compareOp .NotIn) (cNotIn X.prog X.w X.K) := op_notIn_seq.or ((op_notInD hu).or (op_notInS.or ((ou_dnotin (by omega)).or (ou_nnotin (by omega)))))
theorem x_ix (hu : X.A.units + 64 < cLine) : IxR X (bIx X.prog X.w X.K) := ix_list.or (ix_tup.or (ix_str.or ((ix_d hu).or (ix_nd hu))))
theorem s_set (hu : X.A.units + 64 < cLine) : PSet X (bSet X.prog X.w) := PSet.or set_list (PSet.or (set_d hu) (set_nd hu))
theorem k_len : CallR X (.builtin "len") (kLen X.K) := call_len.or call_lenD
theorem k_list (hc : X.calm = true) : CallR X (.type "list") (kList X.K) := call_list_of.or (call_list_dK hc)
theorem k_tuple : CallR X (.type "tuple") (kTuple X.K) := call_tuple_of
theorem k_sorted (hc : X.calm = true) : CallR X (.builtin "sorted") (kSorted X.K X.w) := cr_sortedI.or ((cu_sortSet hc).or (cu_sortTup.or (cu_sortDict hc)))
theorem k_set (hc : X.calm = true) : CallR X (.type "set") (uSetI X.K X.w) := cu_setI hc
theorem k_max (hc : X.calm = true) : CallR X (.builtin "max") (kMax X.K) := (call_max2 hc).or (cr_max hc)
theorem k_min (hc : X.calm = true) : CallR X (.builtin "min") (kMin X.K) := (call_min2 hc).or (cr_min hc)
theorem k_abs : CallR X (.builtin "abs") kAbs := call_abs
theorem k_int : CallR X (.type "int") kInt := call_int1
theorem k_isi : CallR X (.builtin "isinstance") (rIsi X.K) := call_isi
theorem p_tru {a : Expr} {ta : TE} (ha : PE X a ta) (he : ∀ whole, isTrue a X.env whole = (do let v ← whole; standAt a.pos; holding [v] (truthy v)) := by intro _; rfl) : PT X a (tTru X.K ta) := pt_truth ha he
theorem s_sl : SlR X (bSl X.K) := sl_list.or sl_tupA
theorem g_seq {es : List Expr} {k : Nat} {t : TGs} {n : Nat} {pos : Pos} (hc : X.calm = true) (h : PGs X es t)
    (hn : (assignEach es X.env).length = n := by rfl) (hst : (assignEach es X.env).findIdx? (·.1) = none := by rfl) : PG X (.Tuple es k pos) (gSeq X.K n t) := by
  refine ⟨fun pins s σ H v u Q I r hw => ?_⟩
  rcases hw with hw | hw
  · exact (pg_tup hc h hn hst).run pins s σ H v u Q I r hw
  · exact (pg_unl hc h hn hst).run pins s σ H v u Q I r hw
/-- what a for walks, by its value -/
def kIter (K : PySem.W.Frag) (x : V) (H : Hp) (R : It → Hp → Prop) : Prop := (∃ a, x = .ref a ∧ (∃ xs, SqL K H a xs) ∧ R (Itl K a) H) ∨ (∃ a, x = .ref a ∧ (∃ xs, SqT K H a xs) ∧ R (Itt K a) H) ∨ ∃ z, x = .str z ∧ R (Its z) H
def iAny (K : PySem.W.Frag) (tl : TE) : TI := fun σ H R => tl σ H fun x H1 => kIter K x H1 R
theorem pi_any {tg l : Expr} {tl : TE} (hl : PE X l tl) : PI X tg l (iAny X.K tl) := by
  refine ⟨fun pins s σ H R I h => thn (hl.run pins s σ H _ I h) fun v s1 ⟨x, H1, I1, r1, q1⟩ => ?_⟩
  have own : ∀ {Q : Hp}, Inv X pins σ Q s1 → ∀ b ∈ [s1.heap.objs.size], FpOk X pins Q b := fun J b hb => by
    cases List.mem_singleton.mp hb
    exact J.fpOk (Nat.le_refl _) (J.hok.fresh (Nat.le_refl _))
  rcases q1 with ⟨a, rfl, ⟨xs, hq⟩, q⟩ | ⟨a, rfl, ⟨xs, hq⟩, q⟩ | ⟨z, rfl, q⟩
  · cases r1
    obtain ⟨its, rv, p, hz⟩ := I1.list hq
    exact wpAny_pyIter_list p.isList ⟨_, [s1.heap.objs.size], _, _, H1, rfl, I1.kept (t' := s1.toks) fun b o e => Heap.get?_push_of_some _ e, turn_list a _, ⟨_, Heap.get?_push_size _ rfl, rfl, rfl⟩, own I1, q⟩
  · cases r1
    obtain ⟨its, rv, p, hz⟩ := I1.tuple hq
    exact wpAny_pyIter_tuple (show s1.heap.IsTuple a its.toArray from p) ⟨_, [s1.heap.objs.size], _, _, H1, rfl, I1.kept (t' := s1.toks) fun b o e => Heap.get?_push_of_some _ e, turn_tuple a _, ⟨_, Heap.get?_push_size _ rfl, rfl, rfl⟩, own I1, q⟩
  · obtain ⟨t, rfl⟩ := r1
    cases ha : z.cps.all (· < 128)
    · exact wpAny_pyIter_wide ha (pi_one (tk := s1.toks) I1 _ (turn_str _ z t "str_iterator" (.inr rfl)) ⟨_, Heap.get?_push_size _ rfl, rfl, rfl⟩ q)
    · exact wpAny_pyIter_ascii ha (pi_one (tk := s1.toks) I1 _ (turn_str _ z t "str_ascii_iterator" (.inl rfl)) ⟨_, Heap.get?_push_size _ rfl, rfl, rfl⟩ q)
theorem mt_kindex (hu : X.A.units + 65 < cLine) : MtR X "list.index" (kIndex X.K) := mt_index.or (mt_indexD hu)
end
/-! ### defs, methods, classes of the text, by their promises -/
structure Cal (P : Program) (w : World) (K : PySem.W.Frag) (mg : Str → Option Value) (base : Heap) (CX : CXT) (k : Nat) (x : Str) (sp : Sp) : Prop where
  ex : ∃ (f : Addr) (fd : FuncData) (ps : List Str), FnOk P w K mg base CX k f fd ps sp ∧ mg x = some (.ref f) ∧ PySem.W.keepIn K (.ref f) = true ∧ Binds K fd ps []
structure Met (P : Program) (w : World) (K : PySem.W.Frag) (mg : Str → Option Value) (base : Heap) (CX : CXT) (k : Nat) (C : Addr) (m : Str) (sp : Sp) : Prop where
  ex : ∃ (f : Addr) (fd : FuncData) (ps : List Str), Cls K C ∧ Meth K C m f ∧ FnOk P w K mg base CX k f fd ps sp ∧ Binds K fd ps []
structure Mak (P : Program) (w : World) (K : PySem.W.Frag) (mg : Str → Option Value) (base : Heap) (CX : CXT) (k : Nat) (x : Str) (C : Addr) (sp : Sp) : Prop where
  ex : ∃ (f : Addr) (fd : FuncData) (ps : List Str), Mk K C f ∧ FnOk P w K mg base CX k f fd ps sp ∧ mg x = some (.ref C) ∧ Binds K fd ps []
section
variable {X : Cx} {CX : CXT} {E : XK} {k j : Nat} {C : Addr} {x m : Str} {sp : Sp} {p pos apos : Pos} {e o : Expr} {es : List Expr} {ta : TE} {t : TA}
theorem e_call (c : Cal X.prog X.w X.K X.mg X.base CX k x sp) (hr : Room j X.A) (hk : k ≤ j) (hx : Passes CX X E) (hg : Gl X x) (ha : PA X (e :: es) t)
    (hdb : (x == ("__debug__" : Str)) = false := by decide) (he : starEach (e :: es) X.env = (false, eval e X.env) :: starEach es X.env := by rfl) (hpl : (backTo pos (starEach es X.env)).any (·.1) = false := by rfl) :
    PE X (.Call (.Name x p) (e :: es) [] pos) (tCall sp [] E t) := by
  obtain ⟨f, fd, ps, F, hm, kp, b⟩ := c.ex
  exact pe_call F (hr.mono hk) hg hm kp b .nil hx ha hdb he hpl
theorem e_call0 (c : Cal X.prog X.w X.K X.mg X.base CX k x sp) (hr : Room j X.A) (hk : k ≤ j) (hx : Passes CX X E) (hg : Gl X x) (hdb : (x == ("__debug__" : Str)) = false := by decide) :
    PE X (.Call (.Name x p) [] [] pos) (tCall sp [] E tNil) := by
  obtain ⟨f, fd, ps, F, hm, kp, b⟩ := c.ex
  exact pe_call0 F (hr.mono hk) hg hm kp b .nil hx hdb
theorem e_make (c : Mak X.prog X.w X.K X.mg X.base CX k x C sp) (hr : Room j X.A) (hk : k + 1 ≤ j) (hx : Passes CX X E) (hg : Gl X x) (ha : PA X (e :: es) t)
    (hdb : (x == ("__debug__" : Str)) = false := by decide) (he : starEach (e :: es) X.env = (false, eval e X.env) :: starEach es X.env := by rfl) (hpl : (backTo pos (starEach es X.env)).any (·.1) = false := by rfl) :
    PE X (.Call (.Name x p) (e :: es) [] pos) (tMake C sp [] E t) := by
  obtain ⟨f, fd, ps, M, F, hm, b⟩ := c.ex
  exact pe_make M F (hr.mono hk) hg hm b .nil hx ha hdb he hpl
theorem e_make0 (c : Mak X.prog X.w X.K X.mg X.base CX k x C sp) (hr : Room j X.A) (hk : k + 1 ≤ j) (hx : Passes CX X E) (hg : Gl X x) (hdb : (x == ("__debug__" : Str)) = false := by decide) :
    PE X (.Call (.Name x p) [] [] pos) (tMake C sp [] E tNil) := by
  obtain ⟨f, fd, ps, M, F, hm, b⟩ := c.ex
  exact pe_make0 M F (hr.mono hk) hg hm b .nil hx hdb
theorem e_meth {pl : Sem Bool} (c : Met X.prog X.w X.K X.mg X.base CX k C m sp) (hr : Room j X.A) (hk : k ≤ j) (hx : Passes CX X E) (he : PE X o ta) (ha : PA X (e :: es) t)
    (h1 : starEach (e :: es) X.env = (false, eval e X.env) :: starEach es X.env := by rfl) (h2 : (backTo pos (starEach es X.env)).any (·.1) = false := by rfl)
    (h3 : eval (.Call (.Attribute o m apos) (e :: es) [] pos) X.env = (do let ov ← eval o X.env; standAt apos.atName; let (f, first) ← holding [ov] (getMethod ov m pl)
                                                                          callWith pos f first (backTo pos (starEach (e :: es) X.env)) (backToKw pos (keywordEach [] X.env))) := by rfl) :
    PE X (.Call (.Attribute o m apos) (e :: es) [] pos) (tMeth C m sp [] E ta t) := by
  obtain ⟨f, fd, ps, hc, hm, F, b⟩ := c.ex
  exact pe_meth (pl := pl) he hc hm F (hr.mono hk) b .nil hx ha h1 h2 h3
theorem e_meth0 {pl : Sem Bool} (c : Met X.prog X.w X.K X.mg X.base CX k C m sp) (hr : Room j X.A) (hk : k ≤ j) (hx : Passes CX X E) (he : PE X o ta)
    (h3 : eval (.Call (.Attribute o m apos) [] [] pos) X.env = (do let ov ← eval o X.env; standAt apos.atName; let (f, first) ← holding [ov] (getMethod ov m pl)
                                                                   callWith pos f first (backTo pos (starEach [] X.env)) (backToKw pos (keywordEach [] X.env))) := by rfl) :
    PE X (.Call (.Attribute o m apos) [] [] pos) (tMeth C m sp [] E ta tNil) := by
  obtain ⟨f, fd, ps, hc, hm, F, b⟩ := c.ex
  exact pe_meth0 (pl := pl) he hc hm F (hr.mono hk) b .nil hx h3
end
end Hm

/-! F3: readings, one lemma a head. -/
namespace Hm
open PySem L2

/-! ### heaps -/
/-- what stood stands, but for the cells of M -/
def Keep (M : Addr → Prop) (H H' : Hp) : Prop := ∀ a o, ¬ M a → H a = some o → H' a = some o
abbrev Nil : Addr → Prop := fun _ => False
theorem Keep.refl {M : Addr → Prop} {H : Hp} : Keep M H H := fun _ _ _ h => h
theorem Keep.trans {M : Addr → Prop} {H H1 H2 : Hp} (a : Keep M H H1) (b : Keep M H1 H2) : Keep M H H2 := fun c o n h => b c o n (a c o n h)
theorem Keep.mono {M N : Addr → Prop} {H H' : Hp} (k : Keep M H H') (s : ∀ a, M a → N a) : Keep N H H' := fun a o n h => k a o (fun z => n (s a z)) h
theorem Keep.weak {M : Addr → Prop} {H H' : Hp} (k : Keep Nil H H') : Keep M H H' := k.mono fun _ z => z.elim
theorem Keep.new {M : Addr → Prop} {H H' : Hp} {p : Addr} {o : HO} (k : Keep M H H') (hp : H' p = none) : Keep M H (upd H' p o) := fun a u n h => by
  rw [upd_ne (ne_of_none (k a u n h) hp)]; exact k a u n h
theorem Keep.alloc {M : Addr → Prop} {H : Hp} {p : Addr} {o : HO} (hp : H p = none) : Keep M H (upd H p o) := Keep.refl.new hp
theorem Keep.set {M : Addr → Prop} {H H' : Hp} {p : Addr} {o : HO} (k : Keep M H H') (hp : M p) : Keep M H (upd H' p o) := fun a u n h => by
  rw [upd_ne (fun z => n (by rw [z]; exact hp))]; exact k a u n h
/-- a cell that was new at the start may be forgotten -/
theorem Keep.hide {M : Addr → Prop} {H H' : Hp} {l : Addr} (k : Keep (fun a => M a ∨ a = l) H H') (hl : H l = none) : Keep M H H' := fun a o n h =>
  k a o (fun z => z.elim n fun e => by rw [e, hl] at h; cases h) h
theorem Keep.setN {M : Addr → Prop} {H H' : Hp} {p : Addr} {o : HO} (k : Keep M H H') (hp : H p = none) : Keep M H (upd H' p o) := fun a u n h => by
  rw [upd_ne (fun z => by rw [z, hp] at h; cases h)]; exact k a u n h
theorem Keep.get {M : Addr → Prop} {H H' : Hp} {a : Addr} {o : HO} (k : Keep M H H') (n : ¬ M a) (h : H a = some o) : H' a = some o := k a o n h
theorem is_upd {H : Hp} {p a : Addr} {o : HO} {v : Option HO} (e : upd H p o a = v) : upd H p o a = v := e
theorem upd_at {H : Hp} {p : Addr} {o o' : HO} (e : o = o') : upd H p o p = some o' := by rw [upd_same, e]
theorem get_new {H : Hp} {a p : Addr} {o u : HO} (hp : H p = none) (h : H a = some o) : upd H p u a = some o := by rw [upd_ne (ne_of_none h hp)]; exact h
theorem get_set {H : Hp} {a p : Addr} {o u : HO} (n : a ≠ p) (h : H a = some o) : upd H p u a = some o := by rw [upd_ne n]; exact h
theorem get_setK {H : Hp} {a p : Addr} {o u u0 : HO} (hp : H p = some u0) (h : H a = some o) (d : o ≠ u0) : upd H p u a = some o := get_set (ne_of h hp d) h
theorem ne_old {H : Hp} {a p : Addr} {o : HO} (hp : H p = none) (h : H a = some o) : a ≠ p := ne_of_none h hp
theorem ne_new {H : Hp} {a p : Addr} {o : HO} (hp : H p = none) (h : H a = some o) : p ≠ a := (ne_of_none h hp).symm
theorem none_of_upd {H : Hp} {a p : Addr} {o : HO} (h : upd H p o a = none) : H a = none := by
  unfold upd at h; split at h
  · cases h
  · exact h
theorem none_ne {H : Hp} {a p : Addr} {o : HO} (h : upd H p o a = none) : a ≠ p := fun z => by rw [z, upd_same] at h; cases h
theorem none_ne' {H : Hp} {a p : Addr} {o : HO} (h : upd H p o a = none) : p ≠ a := (none_ne h).symm

theorem seq_keep {K : PySem.W.Frag} {H H' : Hp} {a : Addr} {xs : List V} (k : Keep Nil H H') (h : SqL K H a xs) : SqL K H' a xs := Same.seq (fun b o e => k b o (fun z => z) e) h
theorem seq_new {K : PySem.W.Frag} {H : Hp} {a p : Addr} {o : HO} {xs : List V} (hp : H p = none) (h : SqL K H a xs) : SqL K (upd H p o) a xs := seq_keep (Keep.alloc hp) h
theorem keep_none {H H' : Hp} {p : Addr} (k : Keep Nil H H') (h : H' p = none) : H p = none := by
  cases e : H p with
  | none => rfl
  | some o => rw [k p o (fun z => z) e] at h; cases h
section
variable {P : Program} {w : World} {K : PySem.W.Frag} {σ : St} {H : Hp} {Q : VK} {D : Ends} {C : Addr} {E : XK} {sp : Sp} {f m : Str}
variable {t u tb : TS} {te ta td tv : TE} {tt : TT} {tr : TA} {g : TG} {i j : Nat} {v x y : V} {r : R2}

/-! ### constants of the text -/
theorem gint {mg : Str → Option Value} {x : Str} {i : Int} (h : ∃ t, mg x = some (.int i t)) : ∃ u, mg x = some u ∧ RelV (.int i) u := by
  obtain ⟨t, e⟩ := h
  exact ⟨_, e, t, rfl⟩
theorem gstr {mg : Str → Option Value} {x z : Str} (h : ∃ t, mg x = some (.str z t)) : ∃ u, mg x = some u ∧ RelV (.str z) u := by
  obtain ⟨t, e⟩ := h
  exact ⟨_, e, t, rfl⟩
/-! ### statements -/
theorem absQ {S : Hp → Prop} {v : V} (h : S H) (k : ∀ HT, S HT → Q v HT) : Q v H := k H h
theorem absS {S : Hp → Prop} (h : S H) (k : ∀ HT, S HT → t D σ HT) : t D σ H := k H h

theorem absT {S : Hp → Prop} {R : Bool → Hp → Prop} (h : S H) (k : ∀ HT, S HT → tt σ HT R) : tt σ H R := k H h
theorem absE {S : Hp → Prop} (h : S H) (k : ∀ HT, S HT → te σ HT Q) : te σ H Q := k H h
theorem r_seq (h : t { D with nx := u D } σ H) : tSeq t u D σ H := h
theorem r_nx {n b c : L2.St → Hp → Prop} {rt : VK} (h : n σ H) : (Ends.mk n rt b c).nx σ H := h
theorem r_rt {n b c : L2.St → Hp → Prop} {rt : VK} (h : rt v H) : (Ends.mk n rt b c).rt v H := h
theorem r_bk {n b c : L2.St → Hp → Prop} {rt : VK} (h : b σ H) : (Ends.mk n rt b c).bk σ H := h
theorem r_ct {n b c : L2.St → Hp → Prop} {rt : VK} (h : c σ H) : (Ends.mk n rt b c).ct σ H := h
theorem r_next (h : D.nx σ H) : tNext D σ H := h
theorem r_asg (h : te σ H fun x H1 => g x σ H1 D.nx) : tAsg te g D σ H := h
theorem r_gname {Q : St → Hp → Prop} (h : Q (σ.set i (some v)) H) : gName i v σ H Q := h
theorem r_drop (h : te σ H fun _ H1 => D.nx σ H1) : tDrop te D σ H := h
theorem r_ret (h : te σ H D.rt) : tRet te D σ H := h
theorem r_if (h : tt σ H fun b H1 => if b = true then t D σ H1 else u D σ H1) : tIfS tt t u D σ H := h
theorem r_brk (h : D.bk σ H) : tBreak D σ H := h
theorem r_cont (h : D.ct σ H) : tCont D σ H := h
theorem r_par {tas : TA} (h : tas σ H fun vs H1 => ∃ v w, vs = [v, w] ∧ D.nx ((σ.set i (some v)).set j (some w)) H1) : tPar i j tas D σ H := h
theorem r_par2 {v w : V} {R : V → V → Prop} (h : R v w) : ∃ v' w', [v, w] = [v', w'] ∧ R v' w' := ⟨v, w, rfl, h⟩
/-! ### tests -/
def kB (x : V) (R : Bool → Prop) : Prop := ∃ k, x = .bl k ∧ R k
theorem r_test {R : Bool → Hp → Prop} (h : te σ H fun x H' => kB x fun k => R k H') : tTest te σ H R := h
theorem r_kB {b : Bool} {R : Bool → Prop} (h : R b) : kB (.bl b) R := ⟨b, rfl, h⟩
theorem r_and {t1 t2 : TT} {R : Bool → Hp → Prop} (h : t1 σ H fun c H1 => if c = true then t2 σ H1 R else R false H1) : tAnd t1 t2 σ H R := h
theorem r_or {t1 t2 : TT} {R : Bool → Hp → Prop} (h : t1 σ H fun c H1 => if c = true then R true H1 else t2 σ H1 R) : tOr t1 t2 σ H R := h
theorem r_not {t1 : TT} {R : Bool → Hp → Prop} (h : t1 σ H fun c H1 => R (!c) H1) : tNot t1 σ H R := h
theorem r_tru {R : Bool → Hp → Prop} (h : te σ H fun x H' => ∃ k, TruV K x H' k ∧ R k H') : tTru K te σ H R := h
theorem r_tru_bl {b : Bool} {R : Bool → Prop} (h : R b) : ∃ k, TruV K (.bl b) H k ∧ R k := ⟨b, rfl, h⟩
theorem r_ite_tt {A B : Prop} (h : A) : if true = true then A else B := by rw [if_pos rfl]; exact h
theorem r_ite_ff {A B : Prop} (h : B) : if false = true then A else B := by rw [if_neg Bool.false_ne_true]; exact h
theorem r_ite {p A B : Prop} [Decidable p] (h1 : p → A) (h2 : ¬ p → B) : if decide p = true then A else B := by
  by_cases h : p
  · rw [if_pos (decide_eq_true h)]; exact h1 h
  · rw [if_neg (by simp [h])]; exact h2 h
theorem r_iteT' {p A B : Prop} [Decidable p] (c : p) (h : A) : if decide p = true then A else B := by rw [if_pos (decide_eq_true c)]; exact h
theorem r_iteF' {p A B : Prop} [Decidable p] (c : ¬ p) (h : B) : if decide p = true then A else B := by rw [if_neg (by simp [c])]; exact h
theorem r_iteNT' {p A B : Prop} [Decidable p] (c : ¬ p) (h : A) : if (!decide p) = true then A else B := by rw [if_pos (by simp [c])]; exact h
theorem r_iteNF' {p A B : Prop} [Decidable p] (c : p) (h : B) : if (!decide p) = true then A else B := by rw [if_neg (by simp [c])]; exact h
theorem r_ite_nt {A B : Prop} (h : B) : if (!true) = true then A else B := by rw [if_neg (by simp)]; exact h
theorem r_ite_nf {A B : Prop} (h : A) : if (!false) = true then A else B := by rw [if_pos (by simp)]; exact h
theorem r_iteN {p A B : Prop} [Decidable p] (h1 : ¬ p → A) (h2 : p → B) : if (!decide p) = true then A else B := by
  by_cases h : p
  · rw [if_neg (by simp [h])]; exact h2 h
  · rw [if_pos (by simp [h])]; exact h1 h
theorem r_iteB {b : Bool} {A B : Prop} (h1 : b = true → A) (h2 : b = false → B) : if b = true then A else B := by
  cases b
  · exact r_ite_ff (h2 rfl)
  · exact r_ite_tt (h1 rfl)
theorem r_iteNB {b : Bool} {A B : Prop} (h1 : b = false → A) (h2 : b = true → B) : if (!b) = true then A else B := by
  cases b
  · exact r_ite_tt (h1 rfl)
  · exact r_ite_ff (h2 rfl)
theorem r_ite_if {b : Bool} {A B : Prop} (hb : b = true) (h : A) : if b = true then A else B := by rw [if_pos hb]; exact h
theorem r_ite_else {b : Bool} {A B : Prop} (hb : b = false) (h : B) : if b = true then A else B := by rw [hb, if_neg Bool.false_ne_true]; exact h
/-! ### values -/
theorem r_var (h : σ[i]? = some (some v)) (k : Q v H) : tVar i σ H Q := ⟨v, h, k⟩
theorem r_c (k : Q v H) : tC v σ H Q := k
theorem r_op (k : ta σ H fun x H1 => te σ H1 fun y H2 => r x y H2 Q) : tOp r ta te σ H Q := k
theorem r_un {q : V → Hp → VK → Prop} (k : ta σ H fun x H1 => q x H1 Q) : tUn q ta σ H Q := k
theorem r_rU {gI : Int → V} {z : Int} (k : Q (gI z) H) : rU gI (.int z) H Q := ⟨z, rfl, k⟩
theorem r_nil {R : List V → Hp → Prop} (k : R [] H) : tNil σ H R := k
theorem r_cons {R : List V → Hp → Prop} (k : te σ H fun x H1 => tr σ H1 fun xs H2 => R (x :: xs) H2) : tCons te tr σ H R := k
theorem r_cb {q : List V → Hp → VK → Prop} (k : tr σ H fun vs H1 => q vs H1 Q) : tCB q tr σ H Q := k
theorem r_call (k : tr σ H fun vs H1 => sp vs H1 Q E) : tCall sp [] E tr σ H Q := by
  have e : (fun vs H1 => sp (vs ++ []) H1 Q E) = fun vs H1 => sp vs H1 Q E := by funext vs H1; rw [List.append_nil]
  show tr σ H fun vs H1 => sp (vs ++ []) H1 Q E
  rw [e]; exact k
def kMeth (C : Addr) (m : Str) (sp : Sp) (E : XK) (tr : TA) (σ : St) (x : V) (H : Hp) (Q : VK) : Prop := ∃ a dx fs, x = .ref a ∧ H a = some (.ins C dx fs) ∧ fs.lookup m = none ∧ tr σ H fun vs H2 => sp (x :: vs) H2 Q E
theorem r_meth (k : ta σ H fun x H1 => kMeth C m sp E tr σ x H1 Q) : tMeth C m sp [] E ta tr σ H Q := by
  have e : ∀ x, (fun vs H1 => sp (x :: (vs ++ [])) H1 Q E) = fun vs H1 => sp (x :: vs) H1 Q E := fun x => by funext vs H1; rw [List.append_nil]
  show ta σ H fun x H1 => ∃ a dx fs, x = .ref a ∧ H1 a = some (.ins C dx fs) ∧ fs.lookup m = none ∧ tr σ H1 fun vs H2 => sp (x :: (vs ++ [])) H2 Q E
  simp only [e]; exact k
theorem r_kmeth {a dx : Addr} {fs : List (Str × V)} (h : H a = some (.ins C dx fs)) (l : fs.lookup m = none) (k : tr σ H fun vs H2 => sp (.ref a :: vs) H2 Q E) : kMeth C m sp E tr σ (.ref a) H Q := ⟨a, dx, fs, rfl, h, l, k⟩
theorem r_make (k : tr σ H fun vs H1 => ∀ x dx, H1 x = none → H1 dx = none → dx ≠ x → sp (.ref x :: vs) (upd (upd H1 dx (.own x)) x (.ins C dx [])) (fun v H2 => v = .non ∧ Q (.ref x) H2) E) : tMake C sp [] E tr σ H Q := by
  have e : ∀ (x : Addr) (S : VK), (fun vs H1 => sp (.ref x :: (vs ++ [])) H1 S E) = fun vs H1 => sp (.ref x :: vs) H1 S E := fun x S => by funext vs H1; rw [List.append_nil]
  show tr σ H fun vs H1 => ∀ x dx, H1 x = none → H1 dx = none → dx ≠ x → sp (.ref x :: (vs ++ [])) (upd (upd H1 dx (.own x)) x (.ins C dx [])) (fun v H2 => v = .non ∧ Q (.ref x) H2) E
  simp only [List.append_nil]; exact k
def kFld (K : PySem.W.Frag) (f : Str) (x : V) (H : Hp) (Q : VK) : Prop := ∃ a C dx fs v, x = .ref a ∧ H a = some (.ins C dx fs) ∧ Cls K C ∧ NoAttr K C f ∧ fs.lookup f = some v ∧ Q v H
theorem r_fld (k : ta σ H fun x H1 => kFld K f x H1 Q) : tFld K ta f σ H Q := k
theorem r_kfld {a dx : Addr} {fs : List (Str × V)} (h : H a = some (.ins C dx fs)) (c : Cls K C) (n : NoAttr K C f) (l : fs.lookup f = some v) (k : Q v H) : kFld K f (.ref a) H Q := ⟨a, C, dx, fs, v, rfl, h, c, n, l, k⟩
def kSFld (K : PySem.W.Frag) (f : Str) (x y : V) (H : Hp) (R : Hp → Prop) : Prop := ∃ a C dx fs, x = .ref a ∧ H a = some (.ins C dx fs) ∧ Cls K C ∧ NoAttr K C f ∧ fs.length < 1000 ∧ R (upd H a (.ins C dx (putF f y fs)))
theorem r_sfld (k : tv σ H fun y H1 => ta σ H1 fun x H2 => kSFld K f x y H2 fun H3 => D.nx σ H3) : sFld K ta tv f D σ H := k
theorem r_ksfld {a dx : Addr} {fs : List (Str × V)} {R : Hp → Prop} (h : H a = some (.ins C dx fs)) (c : Cls K C) (n : NoAttr K C f) (l : fs.length < 1000) (k : R (upd H a (.ins C dx (putF f y fs)))) : kSFld K f (.ref a) y H R := ⟨a, C, dx, fs, rfl, h, c, n, l, k⟩
def kTup (xs : List V) (H : Hp) (Q : VK) : Prop := xs.length ≤ sizeLine ∧ ∀ p, H p = none → Q (.ref p) (upd H p (.tup xs))
def kLst (xs : List V) (H : Hp) (Q : VK) : Prop := xs.length ≤ sizeLine ∧ ∀ p, H p = none → Q (.ref p) (upd H p (.lst xs))
theorem r_tup (k : tr σ H fun xs H1 => kTup xs H1 Q) : tTup tr σ H Q := k
theorem r_lst (k : tr σ H fun xs H1 => kLst xs H1 Q) : tLst tr σ H Q := k
theorem few {n : Nat} (h : n ≤ 100) : n ≤ sizeLine := by rw [sizeLine_eq]; omega
theorem few1 {n : Nat} (h : n ≤ 100000) : n < sizeLine := by rw [sizeLine_eq]; omega
theorem few2 {n : Nat} (h : n ≤ 100000) : n ≤ sizeLine := by rw [sizeLine_eq]; omega
theorem r_ktup {xs : List V} (l : xs.length ≤ 100) (k : ∀ p, H p = none → Q (.ref p) (upd H p (.tup xs))) : kTup xs H Q := ⟨few l, k⟩
theorem r_klst {xs : List V} (l : xs.length ≤ 100) (k : ∀ p, H p = none → Q (.ref p) (upd H p (.lst xs))) : kLst xs H Q := ⟨few l, k⟩
theorem r_sl {q : V → Option Int → Option Int → Hp → VK → Prop} {tl th : TO} (k : te σ H fun x H1 => tl σ H1 fun l H2 => th σ H2 fun u H3 => q x l u H3 Q) : tSl q te tl th σ H Q := k
theorem r_nopart {R : Option Int → Hp → Prop} (k : R none H) : tNoPart σ H R := k
def kI (x : V) (R : Int → Prop) : Prop := ∃ i, x = .int i ∧ R i
theorem r_part {R : Option Int → Hp → Prop} (k : te σ H fun x H1 => kI x fun i => R (some i) H1) : tPart te σ H R := k
theorem r_kI {z : Int} {R : Int → Prop} (h : R z) : kI (.int z) R := ⟨z, rfl, h⟩
def kBM (K : PySem.W.Frag) (T : String) (q : V → List V → Hp → VK → Prop) (tr : TA) (σ : St) (x : V) (H : Hp) (Q : VK) : Prop := tyV K T x H ∧ tr σ H fun xs H2 => q x xs H2 Q
theorem r_bm {T : String} {q : V → List V → Hp → VK → Prop} (k : ta σ H fun x H1 => kBM K T q tr σ x H1 Q) : tBM K T q ta tr σ H Q := k
theorem r_bm0 {T : String} {q : V → List V → Hp → VK → Prop} (k : ta σ H fun x H1 => kBM K T q tNil σ x H1 Q) : tBM0 K T q ta σ H Q := k
theorem r_kbm_l {q : V → List V → Hp → VK → Prop} {l : Addr} {xs : List V} (h : H l = some (.lst xs)) (k : tr σ H fun xs H2 => q (.ref l) xs H2 Q) : kBM K "list" q tr σ (.ref l) H Q := ⟨.inl ⟨rfl, xs, SqL.of h⟩, k⟩
theorem r_revL {l : Addr} {xs : List V} (k : te σ H fun x H1 => x = .ref l ∧ H1 l = some (.lst xs) ∧ ∀ p, H1 p = none → Q (.ref p) (upd H1 p (.lst xs.reverse))) (mono : ∀ S S' : VK, (∀ x H, S x H → S' x H) → te σ H S → te σ H S') : tRevL K te σ H Q :=
  mono _ _ (fun x H1 h => ⟨l, xs, h.1, SqL.of h.2.1, h.2.2⟩) k
def kRev (K : PySem.W.Frag) (x : V) (H : Hp) (Q : VK) : Prop := ∃ a xs, x = .ref a ∧ SqL K H a xs ∧ ∀ p, H p = none → Q (.ref p) (upd H p (.lst xs.reverse))
theorem r_rev (k : te σ H fun x H1 => kRev K x H1 Q) : tRevL K te σ H Q := k
theorem r_krev {l : Addr} {xs : List V} (h : H l = some (.lst xs)) (k : ∀ p, H p = none → Q (.ref p) (upd H p (.lst xs.reverse))) : kRev K (.ref l) H Q := ⟨l, xs, rfl, SqL.of h, k⟩
def kNotV (x : V) (R : Bool → Prop) : Prop := kB x R
theorem r_notV (k : ta σ H fun x H1 => kB x fun b => Q (.bl (!b)) H1) : tNotV ta σ H Q := k
theorem r_andV (k : ta σ H fun x H1 => kB x fun b => if b = true then te σ H1 Q else Q (.bl false) H1) : tAndV ta te σ H Q := k
theorem r_orV (k : ta σ H fun x H1 => kB x fun b => if b = true then Q (.bl true) H1 else te σ H1 Q) : tOrV ta te σ H Q := k
theorem r_chain {r' : R2} {tc : TE} (k : ta σ H fun x H1 => te σ H1 fun y H2 => r x y H2 fun z H3 => kB z fun b => if b = true then tc σ H3 fun w' H4 => r' y w' H4 Q else Q (.bl false) H3) : tChain r r' ta te tc σ H Q := k
theorem r_gsub {tsv : TSet} {R : St → Hp → Prop} (k : ta σ H fun o H1 => te σ H1 fun i H2 => tsv o i v H2 fun H3 => R σ H3) : gSub ta te tsv v σ H R := k
/-! ### operators by values -/
variable {a b : Int} {l l' p q : Addr} {xs zs : List V}
theorem v_add (k : Q (.int (a + b)) H) : bAdd K (.int a) (.int b) H Q := .inl ⟨a, b, rfl, rfl, k⟩
theorem v_addL (h1 : H l = some (.lst xs)) (h2 : H l' = some (.lst zs)) (n : xs.length + zs.length ≤ sizeLine) (k : ∀ p, H p = none → Q (.ref p) (upd H p (.lst (xs ++ zs)))) : bAdd K (.ref l) (.ref l') H Q := .inr (.inl ⟨l, l', xs, zs, rfl, rfl, h1, h2, n, k⟩)
theorem v_addS {s z : Str} (n : s.length + z.length ≤ sizeLine) (k : Q (.str (s ++ z)) H) : bAdd K (.str s) (.str z) H Q := .inr (.inr (.inl ⟨s, z, rfl, rfl, n, k⟩))
theorem v_addT (h1 : H l = some (.tup xs)) (h2 : H l' = some (.tup zs)) (n : xs.length + zs.length ≤ sizeLine) (k : ∀ p H', H' p = some (.tup (xs ++ zs)) → Keep Nil H H' → Q (.ref p) H') : bAdd K (.ref l) (.ref l') H Q := by
  refine .inr (.inr (.inr ⟨l, l', xs, zs, rfl, rfl, SqT.of h1, SqT.of h2, n, fun e => ?_, fun _ e => ?_, fun _ _ p hp => k p _ upd_same (Keep.alloc hp)⟩))
  · subst e; exact k l' H (by simpa using h2) Keep.refl
  · subst e; exact k l H (by simpa using h1) Keep.refl
theorem v_sub (k : Q (.int (a - b)) H) : bSub (.int a) (.int b) H Q := ⟨a, b, rfl, rfl, k⟩
theorem v_mul (n : -(2 ^ 64) < a ∧ a < 2 ^ 64) (k : Q (.int (a * b)) H) : bMul (.int a) (.int b) H Q := .inl ⟨a, b, rfl, rfl, .inl n, k⟩
theorem v_mulR (n : -(2 ^ 64) < b ∧ b < 2 ^ 64) (k : Q (.int (a * b)) H) : bMul (.int a) (.int b) H Q := .inl ⟨a, b, rfl, rfl, .inr n, k⟩
theorem v_mulW (n : CMulW a b) (k : Q (.int (a * b)) H) : bMul (.int a) (.int b) H Q := .inr (.inl ⟨a, b, rfl, rfl, n, k⟩)
theorem v_mulL (h : H l = some (.lst xs)) (n : -(2 ^ 63) ≤ a ∧ a < 2 ^ 63 ∧ xs.length * a.toNat ≤ sizeLine) (k : ∀ p, H p = none → Q (.ref p) (upd H p (.lst (List.replicate a.toNat xs).flatten))) : bMul (.ref l) (.int a) H Q :=
  .inr (.inr ⟨l, a, xs, rfl, rfl, h, n.1, n.2.1, n.2.2, k⟩)
theorem v_mod (n : 0 < b) (k : Q (.int (a % b)) H) : bMod (.int a) (.int b) H Q := ⟨a, b, rfl, rfl, n, k⟩
theorem v_div (n : 0 < b ∧ b < 1073741824) (k : Q (.int (a / b)) H) : bDiv (.int a) (.int b) H Q := .inl ⟨a, b, rfl, rfl, n, k⟩
theorem v_divW (n : CDivW a b) (k : Q (.int (a / b)) H) : bDiv (.int a) (.int b) H Q := .inr ⟨a, b, rfl, rfl, n, k⟩
theorem v_pow (n : CPow a b) (k : Q (.int (a ^ b.toNat)) H) : bPow (.int a) (.int b) H Q := ⟨a, b, rfl, rfl, n, k⟩
theorem v_eq (k : Q (.bl (decide (a = b))) H) : cEq K (.int a) (.int b) H Q := .inl ⟨rfl, by
  have e : decide (V.int a = V.int b) = decide (a = b) := by
    by_cases h : a = b
    · subst h; simp
    · rw [decide_eq_false h, decide_eq_false (fun z => h (V.int.inj z))]
  rw [e]; exact k⟩
theorem v_eqS {s z : Str} (k : Q (.bl (decide (s = z))) H) : cEq K (.str s) (.str z) H Q := .inl ⟨rfl, by
  have e : decide (V.str s = V.str z) = decide (s = z) := by
    by_cases h : s = z
    · subst h; simp
    · rw [decide_eq_false h, decide_eq_false (fun z => h (V.str.inj z))]
  rw [e]; exact k⟩
theorem v_ne (k : Q (.bl (!decide (a = b))) H) : cNe K (.int a) (.int b) H Q := .inl ⟨rfl, by
  have e : decide (V.int a = V.int b) = decide (a = b) := by
    by_cases h : a = b
    · subst h; simp
    · rw [decide_eq_false h, decide_eq_false (fun z => h (V.int.inj z))]
  rw [e]; exact k⟩
theorem v_neS {s z : Str} (k : Q (.bl (!decide (s = z))) H) : cNe K (.str s) (.str z) H Q := .inl ⟨rfl, by
  have e : decide (V.str s = V.str z) = decide (s = z) := by
    by_cases h : s = z
    · subst h; simp
    · rw [decide_eq_false h, decide_eq_false (fun z => h (V.str.inj z))]
  rw [e]; exact k⟩
theorem v_eqD {d e : PyData} (h1 : Dp K H x d) (h2 : Dp K H y e) (s1 : SeqAt.shaped d = true) (s2 : SeqAt.shaped e = true) (k : Q (.bl (PyData.eqv d e)) H) : cEq K x y H Q := .inr ⟨d, e, h1, h2, s1, s2, k⟩
theorem v_neD {d e : PyData} (h1 : Dp K H x d) (h2 : Dp K H y e) (s1 : SeqAt.shaped d = true) (s2 : SeqAt.shaped e = true) (k : Q (.bl (!PyData.eqv d e)) H) : cNe K x y H Q := .inr ⟨d, e, h1, h2, s1, s2, k⟩
theorem v_lt (k : Q (.bl (decide (a < b))) H) : cLt K (.int a) (.int b) H Q := .inl ⟨a, b, rfl, rfl, k⟩
theorem v_le (k : Q (.bl (decide (a ≤ b))) H) : cLe (.int a) (.int b) H Q := ⟨a, b, rfl, rfl, k⟩
theorem v_gt (k : Q (.bl (decide (b < a))) H) : cGt (.int a) (.int b) H Q := ⟨a, b, rfl, rfl, k⟩
theorem v_ge (k : Q (.bl (decide (b ≤ a))) H) : cGe (.int a) (.int b) H Q := ⟨a, b, rfl, rfl, k⟩
theorem v_isN (k : Q (.bl (decide (x = .non))) H) : cIs x .non H Q := .inl ⟨rfl, k⟩
theorem v_notN (k : Q (.bl (!decide (x = .non))) H) : cIsNot x .non H Q := .inl ⟨rfl, k⟩
theorem v_isB {c d : Bool} (k : Q (.bl (decide (c = d))) H) : cIs (.bl c) (.bl d) H Q := .inr ⟨c, d, rfl, rfl, k⟩
theorem v_notB {c d : Bool} (k : Q (.bl (!decide (c = d))) H) : cIsNot (.bl c) (.bl d) H Q := .inr ⟨c, d, rfl, rfl, k⟩
theorem v_ixL (h : H l = some (.lst xs)) (n : atI xs a = some v) (k : Q v H) : bIx P w K (.ref l) (.int a) H Q := .inl ⟨l, xs, a, v, rfl, rfl, SqL.of h, n, k⟩
theorem v_ixK (h : SqL K H l xs) (n : atI xs a = some v) (k : Q v H) : bIx P w K (.ref l) (.int a) H Q := .inl ⟨l, xs, a, v, rfl, rfl, h, n, k⟩
theorem v_ixT (h : H l = some (.tup xs)) (n : atI xs a = some v) (k : Q v H) : bIx P w K (.ref l) (.int a) H Q := .inr (.inl ⟨l, xs, a, v, rfl, rfl, SqT.of h, n, k⟩)
theorem v_setL {R : Hp → Prop} {jj : Nat} (h : H l = some (.lst xs)) (n : ixN xs.length a = some jj) (k : R (upd H l (.lst (xs.set jj v)))) : bSet P w (.ref l) (.int a) v H R := .inl ⟨l, xs, a, jj, rfl, rfl, h, n, k⟩
theorem v_lenL (h : H l = some (.lst xs)) (k : Q (.int xs.length) H) : kLen K [.ref l] H Q := .inl ⟨.ref l, xs.length, rfl, .inl ⟨xs, SqL.of h, rfl⟩, k⟩
theorem v_lenK (h : SqL K H l xs) (k : Q (.int xs.length) H) : kLen K [.ref l] H Q := .inl ⟨.ref l, xs.length, rfl, .inl ⟨xs, h, rfl⟩, k⟩
theorem v_lenT (h : H l = some (.tup xs)) (k : Q (.int xs.length) H) : kLen K [.ref l] H Q := .inl ⟨.ref l, xs.length, rfl, .inr ⟨xs, SqT.of h, rfl⟩, k⟩
theorem v_int (k : Q (.int a) H) : kInt [.int a] H Q := .inl ⟨a, rfl, k⟩
theorem v_intB {c : Bool} (k : Q (.int (if c then 1 else 0)) H) : kInt [.bl c] H Q := .inr ⟨c, rfl, k⟩
theorem v_max (k : Q (.int (if b > a then b else a)) H) : kMax K [.int a, .int b] H Q := .inl ⟨a, b, rfl, k⟩
theorem v_min (k : Q (.int (if b < a then b else a)) H) : kMin K [.int a, .int b] H Q := .inl ⟨a, b, rfl, k⟩
theorem v_maxL {ns : List Int} (h : H l = some (.lst (ns.map V.int))) (n : 0 < ns.length) (k : ∀ m, m ∈ ns → (∀ y, y ∈ ns → y ≤ m) → Q (.int m) H) : kMax K [.ref l] H Q := .inr ⟨l, ns, rfl, SqL.of h, n, k⟩
theorem v_abs (k : Q (.int (if a < 0 then -a else a)) H) : kAbs [.int a] H Q := ⟨a, rfl, k⟩
theorem v_listL (h : H l = some (.lst xs)) (k : ∀ p, H p = none → Q (.ref p) (upd H p (.lst xs))) : kList K [.ref l] H Q := .inl ⟨l, xs, rfl, .inl (SqL.of h), k⟩
theorem v_listT (h : H l = some (.tup xs)) (k : ∀ p, H p = none → Q (.ref p) (upd H p (.lst xs))) : kList K [.ref l] H Q := .inl ⟨l, xs, rfl, .inr (SqT.of h), k⟩
theorem v_tupleL (h : H l = some (.lst xs)) (k : ∀ p, H p = none → Q (.ref p) (upd H p (.tup xs))) : kTuple K [.ref l] H Q := ⟨l, xs, rfl, .inl ⟨SqL.of h, k⟩⟩
theorem v_sortedL {ns : List Int} (h : H l = some (.lst (ns.map V.int))) (k : ∀ (ns' : List Int) (p : Addr), ns'.Perm ns → ns'.Pairwise (· ≤ ·) → H p = none → Q (.ref p) (upd H p (.lst (ns'.map V.int)))) : kSorted K w [.ref l] H Q := .inl ⟨l, ns, rfl, SqL.of h, k⟩
theorem v_sortedS {S : Int → Bool} {n : Nat} (h : H l = some (SetO w l S n)) (k : ∀ (ns : List Int) (p : Addr), ns.Pairwise (· < ·) → (∀ z : Int, z ∈ ns ↔ S z = true) → ns.length = n → H p = none → Q (.ref p) (upd H p (.lst (ns.map V.int)))) : kSorted K w [.ref l] H Q := .inr (.inl ⟨l, S, n, rfl, h, k⟩)
theorem v_sortedT {ns : List Int} (h : H l = some (.tup (ns.map V.int))) (k : ∀ (ns' : List Int) (p : Addr), ns'.Perm ns → ns'.Pairwise (· ≤ ·) → H p = none → Q (.ref p) (upd H p (.lst (ns'.map V.int)))) : kSorted K w [.ref l] H Q := .inr (.inr (.inl ⟨l, ns, rfl, SqT.of h, k⟩))
theorem v_sortedD {kvs : List (L2.Key × V)} {ks : List Int} (h : H l = some (.dK kvs)) (e : kvs.map (·.1) = ks.map Sum.inl) (k : ∀ (ns' : List Int) (p : Addr), ns'.Perm ks → ns'.Pairwise (· ≤ ·) → H p = none → Q (.ref p) (upd H p (.lst (ns'.map V.int)))) : kSorted K w [.ref l] H Q := .inr (.inr (.inr ⟨l, kvs, ks, rfl, h, e, k⟩))
theorem v_set {ns : List Int} (h : H l = some (.lst (ns.map V.int))) (n : ns.length ≤ 4000) (k : ∀ (p : Addr) (c : Nat), H p = none → c ≤ ns.length → Q (.ref p) (upd H p (SetO w p (fun j => decide (j ∈ ns)) c))) : uSetI K w [.ref l] H Q := ⟨l, ns, rfl, SqL.of h, n, k⟩
theorem v_append (h : H l = some (.lst xs)) (n : xs.length < sizeLine) (k : Q .non (upd H l (.lst (xs ++ [v])))) : rAppend (.ref l) [v] H Q := ⟨l, xs, v, rfl, rfl, h, n, k⟩
theorem v_clear (h : H l = some (.lst xs)) (k : Q .non (upd H l (.lst []))) : rClear (.ref l) [] H Q := ⟨l, xs, rfl, rfl, h, k⟩
theorem v_insert (h : H l = some (.lst xs)) (n : xs.length < sizeLine) (z : 0 ≤ a ∧ a < 2 ^ 63) (k : Q .non (upd H l (.lst (xs.take a.toNat ++ [v] ++ xs.drop a.toNat)))) : kInsert (.ref l) [.int a, v] H Q := ⟨l, xs, a, v, rfl, rfl, h, n, z.1, z.2, k⟩
theorem v_slL {lo hi : Option Int} (h : H l = some (.lst xs)) (k : ∀ p, H p = none → Q (.ref p) (upd H p (.lst (cutV xs lo hi)))) : bSl K (.ref l) lo hi H Q := .inl ⟨l, xs, rfl, SqL.of h, k⟩
theorem v_isi {t u : Value} {c : V} {b : Bool} (c1 : ClsV c u) (c2 : TyX K H x t) (e : PySem.W.kitOne K t u = some b) (k : Q (.bl b) H) : rIsi K [x, c] H Q := ⟨x, c, t, u, b, rfl, c1, c2, e, k⟩
theorem v_isiI {n : String} {b : Bool} (e : kitB "int" n = some b) (k : Q (.bl b) H) : rIsi K [.int a, .ty n] H Q := v_isi (.ty n) (.base (.int _)) (kit_ty e) k
theorem v_isiB {n : String} {c b : Bool} (e : kitB "bool" n = some b) (k : Q (.bl b) H) : rIsi K [.bl c, .ty n] H Q := v_isi (.ty n) (.base (.bl _)) (kit_ty e) k
theorem v_isiL {n : String} {b : Bool} (h : H l = some (.lst xs)) (e : kitB "list" n = some b) (k : Q (.bl b) H) : rIsi K [.ref l, .ty n] H Q := v_isi (.ty n) (.base (.lst h)) (kit_ty e) k
theorem v_isiT {n : String} {b : Bool} (h : H l = some (.tup xs)) (e : kitB "tuple" n = some b) (k : Q (.bl b) H) : rIsi K [.ref l, .ty n] H Q := v_isi (.ty n) (.base (.tup h)) (kit_ty e) k
theorem v_isiS {n : String} {s : Str} {b : Bool} (e : kitB "str" n = some b) (k : Q (.bl b) H) : rIsi K [.str s, .ty n] H Q := v_isi (.ty n) (.base (.str _)) (kit_ty e) k
theorem kit_int_int : kitB "int" "int" = some true := by decide +kernel
theorem kit_int_bool : kitB "int" "bool" = some false := by decide +kernel
theorem kit_int_list : kitB "int" "list" = some false := by decide +kernel
theorem kit_int_tuple : kitB "int" "tuple" = some false := by decide +kernel
theorem kit_int_str : kitB "int" "str" = some false := by decide +kernel
theorem kit_bool_int : kitB "bool" "int" = some true := by decide +kernel
theorem kit_bool_bool : kitB "bool" "bool" = some true := by decide +kernel
theorem kit_bool_list : kitB "bool" "list" = some false := by decide +kernel
theorem kit_bool_tuple : kitB "bool" "tuple" = some false := by decide +kernel
theorem kit_bool_str : kitB "bool" "str" = some false := by decide +kernel
theorem kit_list_int : kitB "list" "int" = some false := by decide +kernel
theorem kit_list_bool : kitB "list" "bool" = some false := by decide +kernel
theorem kit_list_list : kitB "list" "list" = some true := by decide +kernel
theorem kit_list_tuple : kitB "list" "tuple" = some false := by decide +kernel
theorem kit_list_str : kitB "list" "str" = some false := by decide +kernel
theorem kit_tuple_int : kitB "tuple" "int" = some false := by decide +kernel
theorem kit_tuple_bool : kitB "tuple" "bool" = some false := by decide +kernel
theorem kit_tuple_list : kitB "tuple" "list" = some false := by decide +kernel
theorem kit_tuple_tuple : kitB "tuple" "tuple" = some true := by decide +kernel
theorem kit_tuple_str : kitB "tuple" "str" = some false := by decide +kernel
theorem kit_str_int : kitB "str" "int" = some false := by decide +kernel
theorem kit_str_bool : kitB "str" "bool" = some false := by decide +kernel
theorem kit_str_list : kitB "str" "list" = some false := by decide +kernel
theorem kit_str_tuple : kitB "str" "tuple" = some false := by decide +kernel
theorem kit_str_str : kitB "str" "str" = some true := by decide +kernel
theorem kit_NoneType_int : kitB "NoneType" "int" = some false := by decide +kernel
theorem kit_NoneType_bool : kitB "NoneType" "bool" = some false := by decide +kernel
theorem kit_NoneType_list : kitB "NoneType" "list" = some false := by decide +kernel
theorem kit_NoneType_tuple : kitB "NoneType" "tuple" = some false := by decide +kernel
theorem kit_NoneType_str : kitB "NoneType" "str" = some false := by decide +kernel
theorem kit_dict_int : kitB "dict" "int" = some false := by decide +kernel
theorem kit_dict_bool : kitB "dict" "bool" = some false := by decide +kernel
theorem kit_dict_list : kitB "dict" "list" = some false := by decide +kernel
theorem kit_dict_tuple : kitB "dict" "tuple" = some false := by decide +kernel
theorem kit_dict_str : kitB "dict" "str" = some false := by decide +kernel
/-! ### loops -/
def kFor (J : It) (g : TG) (tb : TS) (D : Ends) (σ : St) (H : Hp) : Prop := ∃ W : Nat → Nat → St → Hp → Prop, (∃ m, W 0 m σ H) ∧ ∀ i m σ H, W i m σ H →
  (J.stop i H ∧ D.nx σ H) ∨ (J.go i H ∧ ∃ N : St → Hp → Prop, (∀ σ' H', N σ' H' → ∃ m', m' < m ∧ W (i + 1) m' σ' H') ∧ ∀ x H', J.yld i H x H' → g x σ H' fun σ2 H2 => tb { D with nx := N, ct := N, bk := D.nx } σ2 H2)
theorem r_for {wi : TI} (k : wi σ H fun J H1 => kFor J g tb D σ H1) : tFor wi g tb D σ H := k
def kRng1 (vs : List V) (H : Hp) (R : It → Hp → Prop) : Prop := ∃ j : Int, vs = [.int j] ∧ -(2 ^ 62) ≤ j ∧ j < 2 ^ 62 ∧ R (Itr 0 j.toNat) H
theorem r_rng1 {R : It → Hp → Prop} (k : tr σ H fun vs H1 => kRng1 vs H1 R) : iRng1 tr σ H R := k
theorem r_krng1 {R : It → Hp → Prop} (n : -(2 ^ 62) ≤ a ∧ a < 2 ^ 62) (k : R (Itr 0 a.toNat) H) : kRng1 [.int a] H R := ⟨a, rfl, n.1, n.2, k⟩
theorem r_iany {R : It → Hp → Prop} (k : te σ H fun x H1 => kIter K x H1 R) : iAny K te σ H R := k
theorem r_kiterL {R : It → Hp → Prop} (h : H l = some (.lst xs)) (k : R (Itl K l) H) : kIter K (.ref l) H R := .inl ⟨l, rfl, ⟨xs, SqL.of h⟩, k⟩
theorem r_kiterT {R : It → Hp → Prop} (h : H l = some (.tup xs)) (k : R (Itt K l) H) : kIter K (.ref l) H R := .inr (.inl ⟨l, rfl, ⟨xs, SqT.of h⟩, k⟩)
def kLc (J : It) (g : TG) (tt : TT) (te : TE) (vs : List Nat) (σ : St) (H1 : Hp) (Q : VK) : Prop := ∀ D, H1 D = none → ∃ W : Nat → Nat → Hp → Prop, (∃ m, W 0 m (upd H1 D (.lst []))) ∧ ∀ i m H, W i m H →
  (J.stop i H ∧ Q (.ref D) H) ∨ (J.go i H ∧ ∃ Nx : Hp → Prop, (∀ H', Nx H' → ∃ m', m' < m ∧ W (i + 1) m' H') ∧ ∀ x H', J.yld i H x H' → g x (wipe σ vs) H' fun σ2 H2 => wipe σ2 vs = wipe σ vs ∧ tt σ2 H2 fun b H3 =>
    if b = true then te σ2 H3 fun y H4 => ∃ acc, H4 D = some (.lst acc) ∧ acc.length < sizeLine ∧ Nx (upd H4 D (.lst (acc ++ [y]))) else Nx H3)
theorem r_lc {wi : TI} {vs : List Nat} (k : wi σ H fun J H1 => kLc J g tt te vs σ H1 Q) : tLc wi g tt te vs σ H Q := k
def kRg (x : V) (H : Hp) (R : Int → Int → Hp → Prop) : Prop := ∃ n, x = .int n ∧ R 0 n H
theorem r_lstRg1 (k : te σ H fun x H1 => kRg x H1 fun c d H2 => RgOk c d ∧ ∀ q, H2 q = none → Q (.ref q) (upd H2 q (.lst (rgV c d)))) : tLstRg (tRg1 te) σ H Q := k
theorem r_krg {R : Int → Int → Hp → Prop} (k : R 0 a H) : kRg (.int a) H R := ⟨a, rfl, k⟩
theorem absF {J : It} {S : Hp → Prop} (h : S H) (k : ∀ HT, S HT → kFor J g tb D σ HT) : kFor J g tb D σ H := k H h
theorem r_yes {R : Bool → Hp → Prop} (k : R true H) : tYes σ H R := k
theorem r_seqT {n : Nat} {ts : TGs} {R : St → Hp → Prop} (h : H l = some (.tup xs)) (e : xs.length = n) (k : ts xs σ H R) : gSeq K n ts (.ref l) σ H R := .inl ⟨l, xs, rfl, SqT.of h, e, k⟩
theorem r_seqL {n : Nat} {ts : TGs} {R : St → Hp → Prop} (h : H l = some (.lst xs)) (e : xs.length = n) (k : ts xs σ H R) : gSeq K n ts (.ref l) σ H R := .inr ⟨l, xs, rfl, SqL.of h, e, k⟩
theorem r_gcons {ts : TGs} {R : St → Hp → Prop} (k : g v σ H fun σ' H' => ts xs σ' H' R) : gCons g ts (v :: xs) σ H R := ⟨v, xs, rfl, k⟩
theorem r_gnil {R : St → Hp → Prop} (k : R σ H) : gNil [] σ H R := ⟨rfl, k⟩
end
end Hm

/-! F4: a caught error held as a value behind its suite; isinstance of it. -/
namespace Hm
open PySem PySem.Spec PyProof.Rows L2
/-- an error of the class cls at a -/
def ExV (cls : Value) (a : Addr) : HO := .ext fun h => ∃ (oe : Obj) (vs : Array Value), h.get? a = some oe ∧ Zc cls none oe ∧ oe.data = .fields vs
theorem exV_ok {P : Program} {w : World} {H : Hp} {h : Heap} {a : Addr} {cls : Value} {oe : Obj} {vs : Array Value} (e : h.get? a = some oe) (z : Zc cls none oe) (d : oe.data = .fields vs) : ObjOk P w H h a (ExV cls a) :=
  ⟨⟨oe, vs, e, z, d⟩, ⟨oe, e⟩, fun _ _ ⟨o, v, q, r⟩ k => ⟨o, v, k o q, r⟩⟩
section
variable {X : Cx} {pins : List (Addr × Obj)} {σ : L2.St} {H : Hp} {s : Shared}
/-- an object of ours, not told of yet, is told of -/
theorem show_ {a : Addr} {φ : Heap → Prop} (I : Inv X pins σ H s) (ha : H a = none) (h0 : X.s_0.heap.get? a = none) (hL : X.env.locals ≠ a) (hc : ∀ x c, X.env.cells.lookup x = some c → c ≠ a) (hp : ∀ p ∈ X.pn ++ pins, p.1 ≠ a)
    (new : ObjOk X.prog X.w (upd H a (.ext φ)) s.heap a (.ext φ)) : Inv X pins σ (upd H a (.ext φ)) s := by
  have old : ∀ b o, H b = some o → upd H a (.ext φ) b = some o := fun b o e => by rw [upd_ne (ne_of_none e ha)]; exact e
  refine ⟨I.ok, I.os, I.bare, ⟨I.base.keep, I.base.slot, fun b o e n hx => ?_, I.base.there, fun b xs e => old _ _ (I.base.tups b xs e), fun b o u e => old _ _ (I.base.frzs b o u e), fun b ps e => ?_⟩, I.loc, I.cell, ?_, fun x c e => ?_, fun p hpp => ?_, fun b u e => ?_, I.len⟩
  · rw [upd_ne (fun z => by rw [z, h0] at e; cases e)]
    exact I.base.free b o e n hx
  · obtain ⟨more, q⟩ := I.base.tbls b ps e
    exact ⟨more, old _ _ q⟩
  · rw [upd_ne hL]; exact I.free
  · rw [upd_ne (hc x c e)]; exact I.freeC x c e
  · obtain ⟨q1, q2, q3⟩ := I.pin p hpp
    exact ⟨q1, by rw [upd_ne (hp p hpp)]; exact q2, q3⟩
  · by_cases hb : b = a
    · subst hb
      rw [upd_same] at e
      cases e
      exact new
    · rw [upd_ne hb] at e
      exact (I.hok b u e).stay (fun _ _ _ q => q) (fun c q => old _ _ q) fun c xs q => old _ _ q
end
/-- what a clause «except c as n» wishes, the error kept: slot i is n's -/
def wVal (K : PySem.W.Frag) (c : Value) (i : Nat) (ts : Addr → Value → TS) (Wout : WX) (D : Ends) : WX := fun cls d σ H =>
  d = none ∧ ∃ b, PySem.W.exmOne K cls c = some b ∧
    (b = true → ∀ a, H a = none → ts a cls { nx := fun σ' H' => D.nx (σ'.set i none) (upd H' a (ExV cls a)), rt := D.rt, bk := fun _ _ => False, ct := fun _ _ => False } (σ.set i (some (.ref a))) H) ∧ (b = false → Wout cls d σ H)
section
variable {X : Cx} {x n : Str} {c : Value} {i : Nat} {body suite : List Stmt} {b₀ : Stmt} {np pos pos' : Pos} {tb : WX → TS} {ts : Addr → Value → TS} {Wout : WX}
/-- try: body, except x as n: suite; what is caught stays an object that is known -/
theorem ps_try_val (hs : X.stack = X.env :: X.outer) (hf : X.env.frame = some X.env.locals) (hN : X.N.Nodup) (hi : X.N[i]? = some n) (hln : X.env.kindOf n = some .local) (hc : Names X x c) (tk : Takes X Wout) (hex : X.ex = [])
    (hb : ∀ (W : WX) (pn : List (Addr × Obj)) (xe : Value → Shared → Prop), Takes (X.tr pn xe) W → PassesOwn (model X.prog X.w) X.A X.env xe → PSs (X.tr pn xe) body (tb W))
    (hsu : ∀ (a : Addr) (oe : Obj) (cls : Value) (pn : List (Addr × Obj)), PSs (X.suite a ((a, oe) :: pn)) (b₀ :: suite) (ts a cls)) :
    PS X (.Try body [.ExceptHandler (some (.Name x np)) (some n) (b₀ :: suite) pos'] [] [] pos) (fun D σ H => tb (wVal X.K c i ts Wout D) D σ H) := by
  refine ⟨fun pins s σ H D I h => wpAny_Try_except ?_⟩
  have ok := I.ok
  have hfr : X.A.frames = some (X.env :: X.outer) := by rw [ok.frames, hs]
  have run := (hb (wVal X.K c i ts Wout D) (X.pn ++ pins) (fun e s₁ => wpAny (model X.prog X.w) X.A (noteFrame e X.env) (fun _ s₂ => wpAny (model X.prog X.w) X.A (setFlight e none)
    (fun _ s₃ => wpAny (model X.prog X.w) X.A (handleBy e X.env [.ExceptHandler (some (.Name x np)) (some n) (b₀ :: suite) pos']) (SP X pins D) X.xe s₃) X.xe s₂) X.xe s₁) ?_ PassesOwn.looking).run [] s σ H D (I.toTry _) h
  · refine wpAny_mono run (fun f s1 hsp => ?_) fun _ _ z => z
    cases f with
    | next => obtain ⟨σ', H', J', q⟩ := hsp; exact wpAny_execs_nil ⟨σ', H', J'.ofTry ok, q⟩
    | brk => obtain ⟨σ', H', J', q⟩ := hsp; exact ⟨σ', H', J'.ofTry ok, q⟩
    | cont => obtain ⟨σ', H', J', q⟩ := hsp; exact ⟨σ', H', J'.ofTry ok, q⟩
    | ret u => obtain ⟨v, σ', H', J', r, q⟩ := hsp; exact ⟨v, σ', H', J'.ofTry ok, r, q⟩
  rintro u s' ⟨a, B, sI, pins', σ', H', cls, d, rfl, J', nb, up, sky, na, os, ag, rfl, b, hb1, hyes, hno⟩
  have J : Inv X pins σ' H' sI := J'.ofTry ok
  have air : Sky B (X.env :: X.outer) a (Zc cls none) X.env.locals s'.heap := by rw [← hs]; exact sky
  show wpAny (model X.prog X.w) X.A (noteFrame (.ref a) X.env) _ _ _
  refine Sky.land Zc.steady hfr hf air fun h3 fl3 up3 => ?_
  have J3 : Inv X pins σ' H' { s' with heap := h3 } := J.landed nb fl3.1 (up.trans up3) os ag
  obtain ⟨oe3, vs3, he3, hz3, hd3⟩ := fl3.there
  have aside : a ∉ frs (X.env :: X.outer) := fun hm => by
    obtain ⟨_, o', e', hnf⟩ := fl3.2.2.1.mem hm
    rw [he3] at e'; cases e'
    exact hnf _ hd3
  have gI : sI.heap.get? a = none := by
    cases e : sI.heap.get? a with
    | none => rfl
    | some o =>
      have q := nb a o e (by show a ∉ frs X.stack; rw [hs]; exact aside)
      rw [fl3.2.1] at q; cases q
  have nL : a ≠ X.env.locals := fun z => aside (List.mem_filterMap.mpr ⟨X.env, List.mem_cons_self, by rw [hf, z]⟩)
  have nF : a ∉ X.fs := fun hm => by
    obtain ⟨e, he, q⟩ := List.mem_filterMap.mp hm
    exact aside (List.mem_filterMap.mpr ⟨e, List.mem_cons_of_mem _ he, q⟩)
  have h00 : X.s_0.heap.get? a = none := by
    cases e : X.s_0.heap.get? a with
    | none => rfl
    | some o =>
      obtain ⟨o', q⟩ := J.base.there a o e (by rw [hex]; exact List.not_mem_nil)
      rw [gI] at q; cases q
  have noCell : ∀ y k, X.env.cells.lookup y = some k → k ≠ a := fun y k e z => by
    obtain ⟨v, o, q, _⟩ := J.cell y k e
    rw [z, gI] at q; cases q
  have noPin : ∀ p ∈ X.pn ++ pins, p.1 ≠ a := fun p hp z => by
    have q := (J.pin p hp).1
    rw [z, gI] at q; cases q
  have S3 := J3.suite he3 hd3 na nL nF
  refine wpAny_handleBy_cons (codeAny_handlers_test ?_) (by intro q; cases q)
  have LT : PySem.W.Looks (model X.prog X.w) h3 (typeOf (.ref a)) cls := fun A Q E s k q => wpAny_typeOf_ref (k _ _ he3) (by rw [hz3.1]; exact q)
  have LM := PySem.W.exm_one (M := model X.prog X.w) (J3.kIn) LT hb1
  have test : ∀ {Q : Value → Shared → Prop} {E : Value → Shared → Prop}, Q c { s' with heap := h3 } → wpAny (model X.prog X.w) (X.A.mark (some (.ref a))) (eval (.Name x np) X.env) Q E { s' with heap := h3 } := fun {Q E} q => by
    obtain ⟨hg, hdbg, hm | ⟨hm, hv, hnn⟩⟩ := hc
    · exact ld_glob (X := X.suite a ((a, oe3) :: (X.pn ++ pins))) S3 hg hm q hdbg
    · exact ld_blt (X := X.suite a ((a, oe3) :: (X.pn ++ pins))) S3 hg hm hv q hnn hdbg
  refine test (LM.here ?_)
  cases b with
  | false =>
    show wpAny _ X.A (handleBy (.ref a) X.env []) _ _ _
    refine wpAny_handleBy_nil ?_
    obtain ⟨k1, k2, k3, oe, vs, T, oT, ts', he, hz, hd, h1, hr⟩ := id fl3
    unfold PySem.passOn
    refine wpAny_bind (wpAny_field he hd h1 ?_)
    rw [if_neg (show ¬ ((Value.ref T == Value.none) = true) from by simp)]
    have fin : wpAny (model X.prog X.w) X.A (setFlight (.ref a) X.env.frame) (fun _ s4 => wpAny (model X.prog X.w) X.A (throw (.ref a) : Sem Flow) (SP X pins D) X.xe s4) X.xe { s' with heap := h3 } := by
      rw [hf]
      refine HandSPX.setFlight_upZ fl3 fun h4 hh4 up4 => wpAny_throw (tk _ _ ?_)
      exact ⟨a, B, sI, pins, σ', H', cls, none, rfl, J, nb, (up.trans up3).trans up4, .inr (.inr (by rw [hs]; exact hh4)), na, os, ag, hno rfl⟩
    first
      | exact wpAny_bind (wpAny_pure (wpAny_bind fin))
      | exact wpAny_bind fin
  | true =>
    refine codeAny_handlers_suite_as (HandSPX.lands_againZ fl3 fun h4 fl4 up4 => ?_)
    have J4 : Inv X pins σ' H' { s' with heap := h4 } := J.landed nb fl4.1 ((up.trans up3).trans up4) os ag
    obtain ⟨oe4, vs4, he4, hz4, hd4⟩ := fl4.there
    have S4 := J4.suite he4 hd4 na nL nF
    refine store_ok (X := X.suite a ((a, oe4) :: (X.pn ++ pins))) (v := .ref a) S4 hN hi (.inl hln) rfl (fun s5 S5 => ?_) (.inr hln)
    refine wpAny_mono ((hsu a oe4 cls (X.pn ++ pins)).run [] s5 _ H' _ S5 (hyes rfl a na)) (fun f s6 hsp => ?_) (fun _ _ z => False.elim z)
    cases f with
    | next =>
      obtain ⟨σ6, H6, S6, q6⟩ := hsp
      obtain ⟨e6, n6, _⟩ := S6.pin (a, oe4) (List.mem_append_left _ List.mem_cons_self)
      have J6 : Inv X pins σ6 H6 s6 := S6.unsuite ok
      have J7 := show_ (φ := fun h => ∃ (oe : Obj) (vs : Array Value), h.get? a = some oe ∧ Zc cls none oe ∧ oe.data = .fields vs) J6 n6 h00 nL.symm noCell noPin (exV_ok e6 hz4 hd4)
      exact gone_ok J7 hN hi hln fun s7 J8 => ⟨_, _, J8, q6⟩
    | brk => obtain ⟨σ6, H6, S6, q6⟩ := hsp; exact q6.elim
    | cont => obtain ⟨σ6, H6, S6, q6⟩ := hsp; exact q6.elim
    | ret u =>
      obtain ⟨v6, σ6, H6, S6, r6, q6⟩ := hsp
      exact gone_ok (S6.unsuite ok) hN hi hln fun s7 J7 => ⟨_, _, _, J7, r6, q6⟩
end
/-- isinstance(e, C), e an error that is known -/
def uIsV (K : PySem.W.Frag) : List V → Hp → VK → Prop := fun xs H Q => ∃ (a D : Addr) (c : V) (u : Value) (b : Bool), xs = [.ref a, c] ∧ H a = some (ExV (.ref D) a) ∧ ExcC K D ∧ ClsV c u ∧ PySem.W.kitOne K (.ref D) u = some b ∧ Q (.bl b) H
theorem k_isV {X : Cx} : CallR X (.builtin "isinstance") (uIsV X.K) := by
  intro pins s σ H xs us Q I r h
  obtain ⟨a, D, c, u, b, rfl, ha, C, hc, e, q⟩ := h
  obtain ⟨u1, u2, rfl, r1, r2⟩ := vals2 r
  have e2 := hc.eq r2
  subst e2
  cases r1
  obtain ⟨⟨oe, vs, hg, hz, hv⟩, _⟩ := I.hok a _ ha
  have J : PySem.W.InstAt s.heap a oe D none := by
    obtain ⟨oc, od, oda, osl⟩ := oe
    obtain ⟨h1, h2⟩ := hz
    dsimp only at h1 h2 hv
    subst h1 h2 hv
    exact ⟨hg, rfl, rfl, trivial⟩
  exact PySem.W.kia_one (PySem.W.handS_kitx_exc C.hg C.hk C.hs C.hd C.ha C.hn C.ht C.hm) I.kIn J e (fun z => nomatch z) fun tk => ⟨.bl b, H, I.tok tk, rfl, q⟩
/-! ### defs that raise, called within a try -/
section
variable {X : Cx} {k j : Nat} {C : Addr} {x m : Str} {sp : Sp} {p pos apos : Pos} {e o : Expr} {es : List Expr} {ta : TE} {t : TA} {W : WX}
def tMethS (C : Addr) (m : Str) (sp : Sp) (W : WX) (ta : TE) (t : TA) : TE := fun σ H Q => tMeth C m sp [] (fun cls d H => W cls d σ H) ta t σ H Q
theorem r_methS {σ : L2.St} {H : Hp} {Q : VK} (h : tMeth C m sp [] (fun cls d H => W cls d σ H) ta t σ H Q) : tMethS C m sp W ta t σ H Q := h
def tCallW (sp : Sp) (W : WX) (t : TA) : TE := fun σ H Q => tCall sp [] (fun cls d H => W cls d σ H) t σ H Q
theorem r_callW {σ : L2.St} {H : Hp} {Q : VK} (h : tCall sp [] (fun cls d H => W cls d σ H) t σ H Q) : tCallW sp W t σ H Q := h
theorem e_callS (c : Cal X.prog X.w X.K X.mg X.base (L2.CX X.prog X.w) k x sp) (hr : Room j X.A) (hk : k ≤ j) (tk : Takes X W) (hg : Gl X x) (ha : PA X (e :: es) t)
    (hdb : (x == ("__debug__" : Str)) = false := by decide) (he : starEach (e :: es) X.env = (false, eval e X.env) :: starEach es X.env := by rfl) (hpl : (backTo pos (starEach es X.env)).any (·.1) = false := by rfl) :
    PE X (.Call (.Name x p) (e :: es) [] pos) (tCallW sp W t) := by
  obtain ⟨f, fd, ps, F, hm, kp, b⟩ := c.ex
  refine ⟨fun pins s σ H Q I h => ?_⟩
  refine (pe_callS (E := WE W) F (hr.mono hk) hg hm kp b (fun σ => passAt tk σ) ha hdb he hpl).run pins s σ H Q I ?_
  have h' : t σ H fun vs H1 => sp (vs ++ []) H1 Q (fun cls d H => W cls d σ H) := h
  show t σ H fun vs H1 => sp vs H1 Q (fun cls d H => W cls d σ H)
  simpa only [List.append_nil] using h'
theorem e_methS {pl : Sem Bool} (c : Met X.prog X.w X.K X.mg X.base (L2.CX X.prog X.w) k C m sp) (hr : Room j X.A) (hk : k ≤ j) (tk : Takes X W) (he : PE X o ta) (ha : PA X (e :: es) t)
    (h1 : starEach (e :: es) X.env = (false, eval e X.env) :: starEach es X.env := by rfl) (h2 : (backTo pos (starEach es X.env)).any (·.1) = false := by rfl)
    (h3 : eval (.Call (.Attribute o m apos) (e :: es) [] pos) X.env = (do let ov ← eval o X.env; standAt apos.atName; let (f, first) ← holding [ov] (getMethod ov m pl)
                                                                          callWith pos f first (backTo pos (starEach (e :: es) X.env)) (backToKw pos (keywordEach [] X.env))) := by rfl) :
    PE X (.Call (.Attribute o m apos) (e :: es) [] pos) (tMethS C m sp W ta t) := by
  obtain ⟨f, fd, ps, hc, hm, F, b⟩ := c.ex
  refine ⟨fun pins s σ H Q I h => PySem.W.methodCall_KW (pl := pl) (thn (he.run pins s σ H _ I h) fun u s1 ⟨y, H1, I1, rx, a, dx, fs, ey, ea, l, q⟩ => ?_) h3⟩
  subst ey
  obtain rfl : u = Value.ref a := rx
  refine getmeth_ok I1 ea hc hm l (PySem.W.callWith_K (first := [.ref a]) (h₀ := X.base) I.ok.mod.kin hm.kp (thn (ha.run pos pins s1 σ H1 _ I1 q) fun us s2 ⟨vs, H2, I2, r, q2⟩ => ⟨I2.kIn, ?_⟩) h1 h2)
  refine run_fnS (E := WE W) (us := .ref a :: us) (vs := .ref a :: vs) F (hr.mono hk) b (fun _ _ _ e s' I c => tk e s' (XE.of_call I (fun _ _ _ h => h) c)) I2 (.cons rfl r) ?_
  have q' : sp (.ref a :: vs ++ []) H2 Q (fun cls d H => W cls d σ H) := q2
  simpa only [List.append_nil] using q'
end
/-! ### raise -/
def tRaiseC (C : Addr) (W : WX) : TS := fun _ σ H => W (.ref C) none σ H
def tRaiseE (C : Addr) (W : WX) (te : TE) : TS := fun _ σ H => te σ H fun _ H1 => W (.ref C) none σ H1
theorem r_raiseC {C : Addr} {W : WX} {D : Ends} {σ : L2.St} {H : Hp} (h : W (.ref C) none σ H) : tRaiseC C W D σ H := h
theorem r_raiseE {C : Addr} {W : WX} {te : TE} {D : Ends} {σ : L2.St} {H : Hp} (h : te σ H fun _ H1 => W (.ref C) none σ H1) : tRaiseE C W te D σ H := h
/-- what stands of a refusal's class -/
structure XCl (K : PySem.W.Frag) (mg : Str → Option Value) (x : Str) (C : Addr) : Prop where
  g : mg x = some (.ref C)
  x : PySem.W.excIn K C [.type "ValueError", .type "Exception", .type "BaseException", .type "object"] "ValueError.__new__" = true
  k : PySem.W.keepIn K (.ref C) = true
  b : PySem.W.subIn K (.ref C) (.type "BaseException") = some true
  t : PySem.W.typeIn K (.ref C) = some (.type "type")
section
variable {X : Cx} {C : Addr} {x m : Str} {p p2 pos pos' : Pos} {jj : Nat} {e : Expr} {ta : TE} {W : WX}
theorem ps_raiseC (hc : X.calm = true) (tk : Takes X W) (c : XCl X.K X.mg x C) (hg : Gl X x) (hdb : (x == ("__debug__" : Str)) = false := by decide) : PS X (.Raise (some (.Call (.Name x p) [.Constant (.str m) jj p2] [] pos)) none pos') (tRaiseC C W) :=
  ps_raise hc tk (pmk_own PySem.F.excBase_ValueError c.x c.g c.k (raises_own c.b c.t) hg hdb)
theorem ps_raiseE (hc : X.calm = true) (tk : Takes X W) (c : XCl X.K X.mg x C) (hg : Gl X x) (he : PE X e ta) (hs : starEach [e] X.env = (false, eval e X.env) :: starEach [] X.env := by rfl) (hdb : (x == ("__debug__" : Str)) = false := by decide) :
    PS X (.Raise (some (.Call (.Name x p) [e] [] pos)) none pos') (tRaiseE C W ta) :=
  ps_raise hc tk (SkE.pmk_own1 PySem.F.excBase_ValueError c.x c.g c.k (raises_own c.b c.t) hg he hs hdb)
end
/-! ### try -/
def tTryV (K : PySem.W.Frag) (c : Value) (i : Nat) (ts : TS) (tb : WX → TS) : TS := fun D σ H => tb (wVal K c i (fun _ _ => ts) (fun _ _ _ _ => False) D) D σ H
theorem r_tryV {K : PySem.W.Frag} {c : Value} {i : Nat} {ts : TS} {tb : WX → TS} {D : Ends} {σ : L2.St} {H : Hp} (h : tb (wVal K c i (fun _ _ => ts) (fun _ _ _ _ => False) D) D σ H) : tTryV K c i ts tb D σ H := h
theorem w_val {K : PySem.W.Frag} {c cls : Value} {i : Nat} {ts : TS} {D : Ends} {σ : L2.St} {H : Hp} (hm : PySem.W.exmOne K cls c = some true)
    (h : ∀ a, H a = none → ts { nx := fun σ' H' => D.nx (σ'.set i none) (upd H' a (ExV cls a)), rt := D.rt, bk := fun _ _ => False, ct := fun _ _ => False } (σ.set i (some (.ref a))) H) : wVal K c i (fun _ _ => ts) (fun _ _ _ _ => False) D cls none σ H :=
  ⟨rfl, true, hm, fun _ a ha => h a ha, fun z => nomatch z⟩
section
variable {X : Cx} {x n : Str} {c : Value} {i : Nat} {body suite : List Stmt} {b₀ : Stmt} {np pos pos' : Pos} {tb : WX → TS} {ts : TS}
theorem ps_tryV (hs : X.stack = X.env :: X.outer) (hf : X.env.frame = some X.env.locals) (hN : X.N.Nodup) (hi : X.N[i]? = some n) (hln : X.env.kindOf n = some .local) (hc : Names X x c) (hex : X.ex = [])
    (hb : ∀ (W : WX) (pn : List (Addr × Obj)) (xe : Value → Shared → Prop), Takes (X.tr pn xe) W → PassesOwn (model X.prog X.w) X.A X.env xe → PSs (X.tr pn xe) body (tb W))
    (hsu : ∀ (a : Addr) (oe : Obj) (pn : List (Addr × Obj)), PSs (X.suite a ((a, oe) :: pn)) (b₀ :: suite) ts) :
    PS X (.Try body [.ExceptHandler (some (.Name x np)) (some n) (b₀ :: suite) pos'] [] [] pos) (tTryV X.K c i ts tb) :=
  ps_try_val (tb := tb) (ts := fun _ _ => ts) hs hf hN hi hln hc takes0 hex (fun W pn xe tk po => hb W pn xe tk po) fun a oe _ pn => hsu a oe pn
end
theorem v_isiN {K : PySem.W.Frag} {H : Hp} {Q : VK} {n : String} {b : Bool} (e : kitB "NoneType" n = some b) (k : Q (.bl b) H) : rIsi K [.non, .ty n] H Q := v_isi (.ty n) (.base .non) (kit_ty e) k
theorem v_isV {K : PySem.W.Frag} {a D : Addr} {c : V} {u : Value} {b : Bool} {H : Hp} {Q : VK} (h : H a = some (ExV (.ref D) a)) (d : ExcC K D) (hc : ClsV c u) (e : PySem.W.kitOne K (.ref D) u = some b) (q : Q (.bl b) H) : uIsV K [.ref a, c] H Q := ⟨a, D, c, u, b, rfl, h, d, hc, e, q⟩
/-! ### list(d.values()), xs.remove(k) -/
/-- a view of the values of the dict at a -/
def ValO (a p : Addr) : HO := .ext fun h => h.IsValuesView p a
def rDVals : V → List V → Hp → VK → Prop := fun x xs H Q => ∃ (a : Addr) (kvs : List (L2.Key × V)), x = .ref a ∧ xs = [] ∧ H a = some (.dK kvs) ∧ ∀ p, H p = none → Q (.ref p) (upd H p (ValO a p))
def rListV : List V → Hp → VK → Prop := fun xs H Q => ∃ (a p : Addr) (kvs : List (L2.Key × V)), xs = [.ref p] ∧ H p = some (ValO a p) ∧ H a = some (.dK kvs) ∧ ∀ q, H q = none → Q (.ref q) (upd H q (.lst (kvs.map (·.2))))
section
variable {X : Cx}
theorem mt_dvals : MtR X "dict.values" rDVals := by
  intro pins s σ H x xs v us Q I rx r h
  obtain ⟨a, kvs, rfl, rfl, ha, q⟩ := h
  obtain rfl : v = Value.ref a := rx
  cases r
  obtain ⟨_, hsys, vs, rel, dof⟩ := dk_of I.hok ha
  obtain ⟨ep, dat⟩ := dof.dictAt
  obtain ⟨ob, es, ho, ex, hdat, hko, hpr, hnd⟩ := id dat
  refine call_meetsIn F.slot_dict_values ⟨ob, ho, ex.1⟩ F.entry_dict_values (F.args_dict_values_1 _) (meets_dict_values (mixKind X.prog X.w) a hsys) ⟨⟨vs, dof⟩, ?_⟩
  exact ⟨.ref s.heap.objs.size, upd H s.heap.objs.size (ValO a s.heap.objs.size), I.laid (t' := s.toks) (fun b u e => Heap.get?_push_of_some _ e) (Nat.le_refl _) ⟨⟨_, Heap.get?_push_size _ rfl, rfl, rfl⟩, ⟨_, Heap.get?_push_size _ rfl⟩, fun _ _ ⟨o, e, z⟩ k => ⟨o, k o e, z⟩⟩, rfl, q _ (I.hok.fresh (Nat.le_refl _))⟩
theorem k_listV (hc : X.calm = true) : CallR X (.type "list") rListV := by
  intro pins s σ H xs us Q I r h
  obtain ⟨a, p, kvs, rfl, hp, ha, q⟩ := h
  obtain ⟨u, rfl, rx⟩ := vals1 r
  obtain rfl : u = Value.ref p := rx
  obtain ⟨view, _⟩ := I.hok p _ hp
  obtain ⟨z, hsys, vs, rel, dof⟩ := dk_of I.hok ha
  obtain ⟨ep, dat⟩ := dof.dictAt
  have hl : kvs.length = vs.length := KV.length rel
  refine PySem.W.kdl_call (PySem.W.kdl_values (knd := mixKind X.prog X.w) (kvs := vs) (ep := ep)) (I.ok.hd hc) ⟨view, dat⟩ (by rw [← hl]; exact z) fun h' tk acc' c' hkeep hS hacc => ?_
  refine ⟨.ref s.heap.objs.size, upd H s.heap.objs.size (.lst (kvs.map (·.2))), I.laid (t' := tk) hkeep (Nat.le_refl _) (show ObjOk X.prog X.w _ _ _ (.lst (kvs.map (·.2))) from ⟨by rw [List.length_map]; exact z, acc'.toList, c', ?_, by rw [Array.toArray_toList]; exact hS⟩), rfl, q _ (I.hok.fresh (Nat.le_refl _))⟩
  have el : acc'.toList.length = acc'.size := by simp
  refine vals_of_at (by rw [List.length_map, el, hacc.1, hl]) fun j x w h1 h2 => ?_
  obtain ⟨k, hk⟩ := hacc.2 j w (by rw [← Array.getElem?_toList]; exact h2)
  obtain ⟨x', e1, e2⟩ := KV.at' rel hk
  rw [List.getElem?_map, e1] at h1
  cases h1
  exact e2
end
theorem v_dvals {a : Addr} {kvs : List (L2.Key × V)} {H : Hp} {Q : VK} (h : H a = some (.dK kvs)) (k : ∀ p, H p = none → Q (.ref p) (upd H p (ValO a p))) : rDVals (.ref a) [] H Q := ⟨a, kvs, rfl, rfl, h, k⟩
theorem r_dvals {K : PySem.W.Frag} {a : Addr} {kvs : List (L2.Key × V)} {H : Hp} {Q : VK} {σ : L2.St} (h : H a = some (.dK kvs)) (k : ∀ p, H p = none → Q (.ref p) (upd H p (ValO a p))) : kBM K "dict" rDVals tNil σ (.ref a) H Q := ⟨.inr (.inr (.inl ⟨rfl, .inl ⟨kvs, h⟩⟩)), v_dvals h k⟩
theorem v_listV {a p : Addr} {kvs : List (L2.Key × V)} {H : Hp} {Q : VK} (h : H p = some (ValO a p)) (h2 : H a = some (.dK kvs)) (k : ∀ q, H q = none → Q (.ref q) (upd H q (.lst (kvs.map (·.2))))) : rListV [.ref p] H Q := ⟨a, p, kvs, rfl, h, h2, k⟩
theorem r_remX {K : PySem.W.Frag} {W : WX} {to te : TE} {σ : L2.St} {H : Hp} {Q : VK} (h : to σ H fun x H1 => tyV K "list" x H1 ∧ te σ H1 fun y H2 => ∃ (l : Addr) (ns : List Int) (k : Int), x = .ref l ∧ y = .int k ∧ H2 l = some (.lst (ns.map V.int)) ∧
  (k ∈ ns → Q .non (upd H2 l (.lst ((ns.erase k).map V.int)))) ∧ (k ∉ ns → ∀ d, W (.type "ValueError") d σ H2)) : tRemX K W to te σ H Q := h
end Hm

/-! F5: values. Rp W H v d: v is the data d, all its objects outside of W. -/
namespace Hm
open PySem PySem.Spec PyProof.Rows L2
mutual
inductive Rp (W : Addr → Prop) (H : Hp) : V → PyData → Prop
  | non : Rp W H .non .none
  | bl (b : Bool) : Rp W H (.bl b) (.bool b)
  | int (i : Int) : Rp W H (.int i) (.int i)
  | str (x : Str) : Rp W H (.str x) (.str x)
  | lst {a : Addr} {xs : List V} {ds : List PyData} : H a = some (.lst xs) → ¬ W a → RpA W H xs ds → Rp W H (.ref a) (.list ds)
  | tup {a : Addr} {xs : List V} {ds : List PyData} : H a = some (.tup xs) → ¬ W a → RpA W H xs ds → Rp W H (.ref a) (.tuple ds)
inductive RpA (W : Addr → Prop) (H : Hp) : List V → List PyData → Prop
  | nil : RpA W H [] []
  | cons {v : V} {vs : List V} {d : PyData} {ds : List PyData} : Rp W H v d → RpA W H vs ds → RpA W H (v :: vs) (d :: ds)
end
section
variable {W W' : Addr → Prop} {H H' : Hp} {K : PySem.W.Frag}
mutual
theorem Rp.move (f : ∀ a o, ¬ W a → H a = some o → H' a = some o ∧ ¬ W' a) : ∀ (d : PyData) (v : V), Rp W H v d → Rp W' H' v d
  | .none, _, h => by cases h; exact .non
  | .bool b, _, h => by cases h; exact .bl b
  | .int i, _, h => by cases h; exact .int i
  | .str x, _, h => by cases h; exact .str x
  | .list ds, _, h => by
    cases h with
    | lst e n r => exact .lst (f _ _ n e).1 (f _ _ n e).2 (RpA.move f ds _ r)
  | .tuple ds, _, h => by
    cases h with
    | tup e n r => exact .tup (f _ _ n e).1 (f _ _ n e).2 (RpA.move f ds _ r)
  | .dict _, _, h => by cases h
theorem RpA.move (f : ∀ a o, ¬ W a → H a = some o → H' a = some o ∧ ¬ W' a) : ∀ (ds : List PyData) (vs : List V), RpA W H vs ds → RpA W' H' vs ds
  | [], _, h => by cases h; exact .nil
  | d :: ds, _, h => by
    cases h with
    | cons r s => exact .cons (Rp.move f d _ r) (RpA.move f ds _ s)
end
mutual
theorem Rp.dp : ∀ (d : PyData) (v : V), Rp W H v d → Dp K H v d
  | .none, _, h => by cases h; exact .non
  | .bool b, _, h => by cases h; exact .bl b
  | .int i, _, h => by cases h; exact .int i
  | .str x, _, h => by cases h; exact .str x
  | .list ds, _, h => by
    cases h with
    | lst e n r => exact .lst (SqL.of e) (RpA.dp ds _ r)
  | .tuple ds, _, h => by
    cases h with
    | tup e n r => exact .tup (SqT.of e) (RpA.dp ds _ r)
  | .dict _, _, h => by cases h
theorem RpA.dp : ∀ (ds : List PyData) (vs : List V), RpA W H vs ds → DpAll K H vs ds
  | [], _, h => by cases h; exact .nil
  | d :: ds, _, h => by
    cases h with
    | cons r s => exact .cons (Rp.dp d _ r) (RpA.dp ds _ s)
end
theorem Rp.keep {v : V} {d : PyData} (h : Rp W H v d) (k : Keep W H H') : Rp W H' v d := Rp.move (fun a o n e => ⟨k a o n e, n⟩) d v h
theorem RpA.keep {v : List V} {d : List PyData} (h : RpA W H v d) (k : Keep W H H') : RpA W H' v d := RpA.move (fun a o n e => ⟨k a o n e, n⟩) d v h
theorem Rp.same {v : V} {d : PyData} (h : Rp W H v d) (k : Keep Nil H H') : Rp W H' v d := h.keep k.weak
theorem RpA.same {v : List V} {d : List PyData} (h : RpA W H v d) (k : Keep Nil H H') : RpA W H' v d := h.keep k.weak
theorem Rp.sub {v : V} {d : PyData} (h : Rp W H v d) (s : ∀ x, W' x → W x) : Rp W' H v d := Rp.move (fun a o n e => ⟨e, fun z => n (s _ z)⟩) d v h
theorem RpA.sub {v : List V} {d : List PyData} (h : RpA W H v d) (s : ∀ x, W' x → W x) : RpA W' H v d := RpA.move (fun a o n e => ⟨e, fun z => n (s _ z)⟩) d v h
/-- a new cell may be marked as one that changes -/
theorem Rp.own {v : V} {d : PyData} {p : Addr} (h : Rp W H v d) (hp : H p = none) : Rp (fun x => W x ∨ x = p) H v d :=
  Rp.move (fun a o n e => ⟨e, fun z => z.elim n (ne_of_none e hp)⟩) d v h
theorem RpA.own {v : List V} {d : List PyData} {p : Addr} (h : RpA W H v d) (hp : H p = none) : RpA (fun x => W x ∨ x = p) H v d :=
  RpA.move (fun a o n e => ⟨e, fun z => z.elim n (ne_of_none e hp)⟩) d v h
/-- W' is W and cells that are new at H -/
theorem Rp.grow {v : V} {d : PyData} (h : Rp W H v d) (s : ∀ x, W' x → W x ∨ H x = none) : Rp W' H v d :=
  Rp.move (fun a o n e => ⟨e, fun z => (s _ z).elim n fun w => by rw [e] at w; cases w⟩) d v h
theorem RpA.grow {v : List V} {d : List PyData} (h : RpA W H v d) (s : ∀ x, W' x → W x ∨ H x = none) : RpA W' H v d :=
  RpA.move (fun a o n e => ⟨e, fun z => (s _ z).elim n fun w => by rw [e] at w; cases w⟩) d v h
theorem Rp.list_ {v : V} {ds : List PyData} (h : Rp W H v (.list ds)) : ∃ a xs, v = .ref a ∧ H a = some (.lst xs) ∧ ¬ W a ∧ RpA W H xs ds := by
  cases h with
  | lst e n r => exact ⟨_, _, rfl, e, n, r⟩
theorem Rp.tuple_ {v : V} {ds : List PyData} (h : Rp W H v (.tuple ds)) : ∃ a xs, v = .ref a ∧ H a = some (.tup xs) ∧ ¬ W a ∧ RpA W H xs ds := by
  cases h with
  | tup e n r => exact ⟨_, _, rfl, e, n, r⟩
theorem Rp.int_ {v : V} {i : Int} (h : Rp W H v (.int i)) : v = .int i := by cases h; rfl
theorem Rp.str_ {v : V} {i : Str} (h : Rp W H v (.str i)) : v = .str i := by cases h; rfl
theorem Rp.bool_ {v : V} {i : Bool} (h : Rp W H v (.bool i)) : v = .bl i := by cases h; rfl
theorem Rp.none_ {v : V} (h : Rp W H v .none) : v = .non := by cases h; rfl
theorem RpA.nil_ {vs : List V} (h : RpA W H vs []) : vs = [] := by cases h; rfl
theorem RpA.cons_ {vs : List V} {d : PyData} {ds : List PyData} (h : RpA W H vs (d :: ds)) : ∃ v r, vs = v :: r ∧ Rp W H v d ∧ RpA W H r ds := by
  cases h with
  | cons r s => exact ⟨_, _, rfl, r, s⟩
theorem Rp.two {v : V} {d e : PyData} (h : Rp W H v (.tuple [d, e])) : ∃ a x y, v = .ref a ∧ H a = some (.tup [x, y]) ∧ ¬ W a ∧ Rp W H x d ∧ Rp W H y e := by
  obtain ⟨a, xs, rfl, e, n, r⟩ := h.tuple_
  obtain ⟨x, _, rfl, r1, r⟩ := r.cons_
  obtain ⟨y, _, rfl, r2, r⟩ := r.cons_
  cases r.nil_
  exact ⟨a, x, y, rfl, e, n, r1, r2⟩
theorem Rp.mk2 {a : Addr} {x y : V} {d e : PyData} (h : H a = some (.tup [x, y])) (n : ¬ W a) (r1 : Rp W H x d) (r2 : Rp W H y e) : Rp W H (.ref a) (.tuple [d, e]) := .tup h n (.cons r1 (.cons r2 .nil))
theorem RpA.len : ∀ {ds : List PyData} {vs : List V}, RpA W H vs ds → vs.length = ds.length
  | [], _, h => by rw [h.nil_]; rfl
  | d :: ds, _, h => by
    obtain ⟨v, r, rfl, _, h⟩ := h.cons_
    rw [List.length_cons, List.length_cons, h.len]
theorem RpA.at_ : ∀ {ds : List PyData} {vs : List V} {i : Nat} {d : PyData}, RpA W H vs ds → ds[i]? = some d → ∃ v, vs[i]? = some v ∧ Rp W H v d
  | [], _, _, _, _, e => by simp at e
  | d :: ds, _, i, x, h, e => by
    obtain ⟨v, r, rfl, h1, h⟩ := h.cons_
    cases i with
    | zero => simp at e; subst e; exact ⟨v, rfl, h1⟩
    | succ i =>
      obtain ⟨w, e1, e2⟩ := h.at_ (i := i) (by simpa using e)
      exact ⟨w, by simpa using e1, e2⟩
theorem RpA.at' {ds : List PyData} {vs : List V} {i : Nat} {v : V} (h : RpA W H vs ds) (e : vs[i]? = some v) : ∃ d, ds[i]? = some d ∧ Rp W H v d := by
  have hi : i < ds.length := by rw [← h.len]; exact (List.getElem?_eq_some_iff.mp e).1
  obtain ⟨w, e1, e2⟩ := h.at_ (List.getElem?_eq_getElem hi)
  rw [e] at e1; cases e1
  exact ⟨_, List.getElem?_eq_getElem hi, e2⟩
theorem RpA.app : ∀ {ds es : List PyData} {vs us : List V}, RpA W H vs ds → RpA W H us es → RpA W H (vs ++ us) (ds ++ es)
  | [], _, _, _, h, k => by rw [h.nil_]; exact k
  | d :: ds, _, _, _, h, k => by
    obtain ⟨v, r, rfl, h1, h⟩ := h.cons_
    exact .cons h1 (h.app k)
theorem RpA.snoc {ds : List PyData} {vs : List V} {v : V} {d : PyData} (h : RpA W H vs ds) (k : Rp W H v d) : RpA W H (vs ++ [v]) (ds ++ [d]) := h.app (.cons k .nil)
theorem RpA.take : ∀ (n : Nat) {ds : List PyData} {vs : List V}, RpA W H vs ds → RpA W H (vs.take n) (ds.take n)
  | 0, _, _, _ => by simp; exact .nil
  | n + 1, [], _, h => by rw [h.nil_]; simp; exact .nil
  | n + 1, d :: ds, _, h => by
    obtain ⟨v, r, rfl, h1, h⟩ := h.cons_
    exact .cons h1 (h.take n)
theorem RpA.drop : ∀ (n : Nat) {ds : List PyData} {vs : List V}, RpA W H vs ds → RpA W H (vs.drop n) (ds.drop n)
  | 0, _, _, h => h
  | n + 1, [], _, h => by rw [h.nil_]; simp; exact .nil
  | n + 1, d :: ds, _, h => by
    obtain ⟨v, r, rfl, h1, h⟩ := h.cons_
    exact h.drop n
theorem RpA.rev : ∀ {ds : List PyData} {vs : List V}, RpA W H vs ds → RpA W H vs.reverse ds.reverse
  | [], _, h => by rw [h.nil_]; exact .nil
  | d :: ds, _, h => by
    obtain ⟨v, r, rfl, h1, h⟩ := h.cons_
    rw [List.reverse_cons, List.reverse_cons]
    exact h.rev.snoc h1
theorem RpA.ints_ : ∀ {l : List Int} {vs : List V}, RpA W H vs (l.map .int) → vs = l.map V.int
  | [], _, h => h.nil_
  | x :: l, _, h => by
    obtain ⟨v, r, rfl, h1, h⟩ := h.cons_
    rw [h1.int_, h.ints_]; rfl
theorem RpA.ints : ∀ (l : List Int), RpA W H (l.map V.int) (l.map .int)
  | [] => .nil
  | x :: l => .cons (.int x) (RpA.ints l)
theorem RpA.strs_ : ∀ {l : List Str} {vs : List V}, RpA W H vs (l.map .str) → vs = l.map V.str
  | [], _, h => h.nil_
  | x :: l, _, h => by
    obtain ⟨v, r, rfl, h1, h⟩ := h.cons_
    rw [h1.str_, h.strs_]; rfl
theorem RpA.strs : ∀ (l : List Str), RpA W H (l.map V.str) (l.map .str)
  | [] => .nil
  | x :: l => .cons (.str x) (RpA.strs l)
end
/-- data of ints -/
abbrev dI (l : List Int) : PyData := .list (l.map PyData.int)
theorem Rp.ints_ {W : Addr → Prop} {H : Hp} {v : V} {l : List Int} (h : Rp W H v (dI l)) : ∃ a, v = .ref a ∧ H a = some (.lst (l.map V.int)) ∧ ¬ W a := by
  obtain ⟨a, xs, rfl, e, n, r⟩ := h.list_
  rw [r.ints_] at e
  exact ⟨a, rfl, e, n⟩
theorem Rp.ints {W : Addr → Prop} {H : Hp} {a : Addr} {l : List Int} (h : H a = some (.lst (l.map V.int))) (n : ¬ W a) : Rp W H (.ref a) (dI l) := .lst h n (RpA.ints l)
/-! ### data that Python tells apart as we do -/
mutual
def pl : PyData → Bool
  | .none => true
  | .int _ => true
  | .str x => (PyData.str x).canLay0
  | .bool _ => false
  | .dict _ => false
  | .list ds => plA ds
  | .tuple ds => plA ds
def plA : List PyData → Bool
  | [] => true
  | d :: ds => pl d && plA ds
end
mutual
theorem eqv_iff : ∀ (d e : PyData), pl d = true → pl e = true → (PyData.eqv d e = true ↔ d = e)
  | .none, e, _, _ => by cases e <;> simp [PyData.eqv]
  | .int i, e, _, h => by cases e <;> simp [PyData.eqv] <;> simp [pl] at h
  | .str i, e, _, _ => by cases e <;> simp [PyData.eqv]
  | .bool _, _, h, _ => by simp [pl] at h
  | .dict _, _, h, _ => by simp [pl] at h
  | .list ds, e, h, k => by
    cases e <;> simp [PyData.eqv]
    exact eqvA_iff ds _ (by simpa [pl] using h) (by simpa [pl] using k)
  | .tuple ds, e, h, k => by
    cases e <;> simp [PyData.eqv]
    exact eqvA_iff ds _ (by simpa [pl] using h) (by simpa [pl] using k)
theorem eqvA_iff : ∀ (ds es : List PyData), plA ds = true → plA es = true → (PyData.eqvAll ds es = true ↔ ds = es)
  | [], es, _, _ => by cases es <;> simp [PyData.eqvAll]
  | d :: ds, es, h, k => by
    cases es with
    | nil => simp [PyData.eqvAll]
    | cons e es =>
      rw [plA, Bool.and_eq_true] at h k
      simp only [PyData.eqvAll, Bool.and_eq_true, List.cons.injEq]
      rw [eqv_iff d e h.1 k.1, eqvA_iff ds es h.2 k.2]
end
theorem plA_mem : ∀ {ds : List PyData}, plA ds = true ↔ ∀ d ∈ ds, pl d = true
  | [] => by simp [plA]
  | d :: ds => by simp [plA, plA_mem (ds := ds)]
theorem plA_map {α : Type} {f : α → PyData} {l : List α} (h : ∀ x, pl (f x) = true) : plA (l.map f) = true := plA_mem.mpr fun d hd => by
  obtain ⟨x, _, rfl⟩ := List.mem_map.mp hd
  exact h x
open Classical in
theorem eqv_dec {d e : PyData} (h : pl d = true) (k : pl e = true) : PyData.eqv d e = decide (d = e) := by
  by_cases z : d = e
  · rw [decide_eq_true z]; exact (eqv_iff d e h k).mpr z
  · rw [decide_eq_false z]
    cases q : PyData.eqv d e with
    | false => rfl
    | true => exact absurd ((eqv_iff d e h k).mp q) z
theorem eqv_inj {α : Type} [DecidableEq α] {f : α → PyData} (hp : ∀ x, pl (f x) = true) (inj : ∀ x y, f x = f y → x = y) (a b : α) : PyData.eqv (f a) (f b) = decide (a = b) := by
  by_cases z : a = b
  · subst z; rw [decide_eq_true rfl]; exact (eqv_iff _ _ (hp _) (hp _)).mpr rfl
  · rw [decide_eq_false z]
    cases q : PyData.eqv (f a) (f b) with
    | false => rfl
    | true => exact absurd (inj _ _ ((eqv_iff _ _ (hp _) (hp _)).mp q)) z
mutual
theorem lay_pl : ∀ d : PyData, pl d = true → d.canLay0 = true
  | .none, _ => rfl
  | .int _, _ => rfl
  | .str _, h => by simpa [pl] using h
  | .bool _, h => by simp [pl] at h
  | .dict _, h => by simp [pl] at h
  | .list ds, h => by simp only [PyData.canLay0]; exact layA_pl ds (by simpa [pl] using h)
  | .tuple ds, h => by simp only [PyData.canLay0]; exact layA_pl ds (by simpa [pl] using h)
theorem layA_pl : ∀ ds : List PyData, plA ds = true → PyData.canLayAll0 ds = true
  | [], _ => by simp [PyData.canLayAll0]
  | d :: ds, h => by
    rw [plA, Bool.and_eq_true] at h
    simp [PyData.canLayAll0, lay_pl d h.1, layA_pl ds h.2]
end
theorem sh_pl {d : PyData} (h : pl d = true) (k : d.depth ≤ 64) : SeqAt.shaped d = true := by
  show (d.canLay0 && decide (d.depth ≤ 64)) = true
  rw [Bool.and_eq_true]
  exact ⟨lay_pl d h, decide_eq_true k⟩
theorem depthA_le {n : Nat} : ∀ {ds : List PyData}, (∀ d ∈ ds, d.depth ≤ n) → PyData.depthAll ds ≤ n
  | [], _ => by simp [PyData.depthAll]
  | d :: ds, h => by
    have h1 := h d List.mem_cons_self
    have h2 := depthA_le fun x hx => h x (List.mem_cons_of_mem _ hx)
    simp only [PyData.depthAll]; omega
theorem depth_list {n : Nat} {ds : List PyData} (h : ∀ d ∈ ds, d.depth ≤ n) : (PyData.list ds).depth ≤ n + 1 := by
  have := depthA_le h
  simp only [PyData.depth]; omega
theorem depth_tup {n : Nat} {ds : List PyData} (h : ∀ d ∈ ds, d.depth ≤ n) : (PyData.tuple ds).depth ≤ n + 1 := by
  have := depthA_le h
  simp only [PyData.depth]; omega
theorem depth_ints (l : List Int) : (PyData.list (l.map PyData.int)).depth ≤ 64 := by
  have := depth_list (n := 1) (ds := l.map PyData.int) fun d hd => by
    obtain ⟨x, _, rfl⟩ := List.mem_map.mp hd
    simp [PyData.depth]
  omega
theorem pl_ints (l : List Int) : pl (.list (l.map PyData.int)) = true := by
  show plA _ = true
  exact plA_map fun x => rfl
theorem sh_ints (l : List Int) : SeqAt.shaped (.list (l.map PyData.int)) = true := sh_pl (pl_ints l) (depth_ints l)
/-! ### what is new is none of what changes -/
def Al (W : Addr → Prop) (H : Hp) : Prop := ∀ x, H x = none → ¬ W x
theorem Al.same {W : Addr → Prop} {H H' : Hp} (a : Al W H) (k : Keep Nil H H') : Al W H' := fun x hx => a x (keep_none k hx)
theorem Al.nil {H : Hp} : Al Nil H := fun _ _ z => z
theorem Al.or {W V : Addr → Prop} {H : Hp} (a : Al W H) (b : Al V H) : Al (fun x => W x ∨ V x) H := fun x hx z => z.elim (a x hx) (b x hx)
theorem Al.one {W : Addr → Prop} {H : Hp} {p : Addr} {o : HO} (a : Al W H) (h : H p = some o) : Al (fun x => W x ∨ x = p) H := fun x hx z => z.elim (a x hx) fun e => by rw [e, h] at hx; cases hx
section
variable {W : Addr → Prop} {H : Hp} {K : PySem.W.Frag} {P : Program} {w : World} {Q : VK} {x y : V} {d e : PyData}
theorem v_addV {ds es : List PyData} (al : Al W H) (h1 : Rp W H x (.list ds)) (h2 : Rp W H y (.list es)) (few : ds.length + es.length ≤ 100000) (k : ∀ (p : Addr) (H' : Hp), Keep Nil H H' → Rp W H' (.ref p) (.list (ds ++ es)) → Q (.ref p) H') : bAdd K x y H Q := by
  obtain ⟨a, xs, rfl, e1, n1, r1⟩ := h1.list_
  obtain ⟨b, ys, rfl, e2, n2, r2⟩ := h2.list_
  refine v_addL e1 e2 (few2 (by rw [r1.len, r2.len]; exact few)) fun p hp => k p _ (Keep.alloc hp) ?_
  have kk : Keep Nil H (upd H p (.lst (xs ++ ys))) := Keep.alloc hp
  exact .lst upd_same (al p hp) ((r1.same kk).app (r2.same kk))
theorem v_eqV (h1 : Rp W H x d) (h2 : Rp W H y e) (s1 : SeqAt.shaped d = true) (s2 : SeqAt.shaped e = true) (k : Q (.bl (PyData.eqv d e)) H) : cEq K x y H Q := .inr ⟨d, e, Rp.dp _ _ h1, Rp.dp _ _ h2, s1, s2, k⟩
theorem v_neV (h1 : Rp W H x d) (h2 : Rp W H y e) (s1 : SeqAt.shaped d = true) (s2 : SeqAt.shaped e = true) (k : Q (.bl (!PyData.eqv d e)) H) : cNe K x y H Q := .inr ⟨d, e, Rp.dp _ _ h1, Rp.dp _ _ h2, s1, s2, k⟩
theorem v_inV {ds : List PyData} (h1 : Rp W H x d) (h2 : Rp W H y (.list ds)) (s1 : SeqAt.shaped d = true) (s2 : SeqAt.shaped (.list ds) = true) (k : Q (.bl (ds.any fun z => PyData.eqv z d)) H) : cIn P w K x y H Q := .inr (.inl ⟨d, ds, Rp.dp _ _ h1, Rp.dp _ _ h2, s1, s2, k⟩)
theorem v_ninV {ds : List PyData} (h1 : Rp W H x d) (h2 : Rp W H y (.list ds)) (s1 : SeqAt.shaped d = true) (s2 : SeqAt.shaped (.list ds) = true) (k : Q (.bl (!ds.any fun z => PyData.eqv z d)) H) : cNotIn P w K x y H Q := .inr (.inl ⟨d, ds, Rp.dp _ _ h1, Rp.dp _ _ h2, s1, s2, k⟩)
end
/-! ### len(set(..)) -/
def kLenS (w : World) : List V → Hp → VK → Prop := fun xs H Q => ∃ (a : Addr) (S : Int → Bool) (n : Nat), xs = [.ref a] ∧ H a = some (SetO w a S n) ∧ ∀ es : List Int, es.Nodup → (∀ z : Int, S z = true ↔ z ∈ es) → es.length = n → Q (.int n) H
theorem k_lenS {X : Cx} : CallR X (.builtin "len") (kLenS X.w) := by
  intro pins s σ H xs us Q I r h
  obtain ⟨a, S, n, rfl, ha, q⟩ := h
  obtain ⟨o, es, ep, t, ho, hex, hd, good, nd, mem, few, fits, num, _⟩ := setO_get I ha
  rw [Vals.ref1 r]
  have hs : scanBound = 4096 := rfl
  refine call_len_set ho hex hd fits (by omega) ?_
  rw [num]
  exact ⟨.int n, H, (I.tok _).tok _, ⟨_, rfl⟩, q (es.toList.map keyOf) nd mem (by rw [List.length_map, Array.length_toList]; exact num)⟩
theorem v_lenS {w : World} {a : Addr} {ns : List Int} {n : Nat} {H : Hp} {Q : VK} (h : H a = some (SetO w a (fun j => decide (j ∈ ns)) n)) (k : ∀ es : List Int, es.Nodup → (∀ z : Int, z ∈ es ↔ z ∈ ns) → Q (.int es.length) H) : kLenS w [.ref a] H Q :=
  ⟨a, _, n, rfl, h, fun es nd m l => l ▸ k es nd fun z => by rw [← m z, decide_eq_true_iff]⟩
/-! ### walks -/
/-- the walk J yields the data ds, outside of W, whatever of N changes -/
structure Yv (N W : Addr → Prop) (J : It) (H0 : Hp) (ds : List PyData) : Prop where
  go : ∀ (H : Hp) (i : Nat), Keep N H0 H → i < ds.length → J.go i H
  stop : ∀ (H : Hp), Keep N H0 H → J.stop ds.length H
  yld : ∀ (H H' : Hp) (i : Nat) (x : V) (d : PyData), Keep N H0 H → ds[i]? = some d → J.yld i H x H' → Keep Nil H H' ∧ Rp W H' x d
theorem yv_list {N W : Addr → Prop} {K : PySem.W.Frag} {H : Hp} {a : Addr} {xs : List V} {ds : List PyData} (h : H a = some (.lst xs)) (n : ¬ N a) (r : RpA W H xs ds) (s : ∀ x, N x → W x) : Yv N W (Itl K a) H ds := by
  refine ⟨fun H1 i k hi => ⟨xs, xs[i]'(by rw [r.len]; exact hi), SqL.of (k _ _ n h), List.getElem?_eq_getElem _⟩, fun H1 k => ⟨xs, SqL.of (k _ _ n h), by rw [r.len]; exact Nat.le_refl _⟩, fun H1 H2 i x d k e y => ?_⟩
  obtain ⟨rfl, y⟩ := y
  obtain ⟨v, e1, e2⟩ := r.at_ e
  have := y xs (SqL.of (k _ _ n h))
  rw [e1] at this; cases this
  exact ⟨Keep.refl, e2.keep (k.mono s)⟩
theorem yv_ints {N W : Addr → Prop} {K : PySem.W.Frag} {H : Hp} {a : Addr} {l : List Int} (h : H a = some (.lst (l.map V.int))) (n : ¬ N a) : Yv N W (Itl K a) H (l.map PyData.int) := by
  have y := yv_list (N := N) (W := N) (K := K) h n (RpA.ints l) (fun _ z => z)
  refine ⟨y.go, y.stop, fun H1 H2 i x d k e q => ?_⟩
  obtain ⟨k2, r⟩ := y.yld H1 H2 i x d k e q
  rw [List.getElem?_map] at e
  obtain ⟨z, _, rfl⟩ := Option.map_eq_some_iff.mp e
  rw [r.int_]
  exact ⟨k2, .int _⟩
theorem yv_tup {N W : Addr → Prop} {K : PySem.W.Frag} {H : Hp} {a : Addr} {xs : List V} {ds : List PyData} (h : H a = some (.tup xs)) (n : ¬ N a) (r : RpA W H xs ds) (s : ∀ x, N x → W x) : Yv N W (Itt K a) H ds := by
  refine ⟨fun H1 i k hi => ⟨xs, xs[i]'(by rw [r.len]; exact hi), SqT.of (k _ _ n h), List.getElem?_eq_getElem _⟩, fun H1 k => ⟨xs, SqT.of (k _ _ n h), by rw [r.len]; exact Nat.le_refl _⟩, fun H1 H2 i x d k e y => ?_⟩
  obtain ⟨rfl, y⟩ := y
  obtain ⟨v, e1, e2⟩ := r.at_ e
  have := y xs (SqT.of (k _ _ n h))
  rw [e1] at this; cases this
  exact ⟨Keep.refl, e2.keep (k.mono s)⟩
def rng (lo : Int) (n : Nat) : List PyData := (List.range n).map fun i => PyData.int (lo + (i : Nat))
theorem rng_len (lo : Int) (n : Nat) : (rng lo n).length = n := by unfold rng; rw [List.length_map, List.length_range]
theorem rng_get {lo : Int} {n i : Nat} {d : PyData} (h : (rng lo n)[i]? = some d) : i < n ∧ d = .int (lo + (i : Nat)) := by
  have hi : i < n := by have := (List.getElem?_eq_some_iff.mp h).1; rw [rng_len] at this; exact this
  unfold rng at h
  rw [List.getElem?_map, List.getElem?_range hi] at h
  exact ⟨hi, by simpa using h.symm⟩
theorem yv_rng {N W : Addr → Prop} {H : Hp} {lo : Int} {n : Nat} : Yv N W (Itr lo n) H (rng lo n) := by
  refine ⟨fun H1 i k hi => by rw [rng_len] at hi; exact hi, fun H1 k => by rw [rng_len]; exact Nat.le_refl _, fun H1 H2 i x d k e y => ?_⟩
  obtain ⟨rfl, rfl⟩ := y
  obtain ⟨_, rfl⟩ := rng_get e
  exact ⟨Keep.refl, .int _⟩
def signs (x : Str) : List PyData := x.cps.toList.map fun c => PyData.str ⟨#[c]⟩
theorem yv_str {N W : Addr → Prop} {H : Hp} {x : Str} : Yv N W (Its x) H (signs x) := by
  have len : (signs x).length = x.cps.size := by unfold signs; rw [List.length_map, Array.length_toList]
  refine ⟨fun H1 i k hi => by rw [len] at hi; exact hi, fun H1 k => by rw [len]; exact Nat.le_refl _, fun H1 H2 i v d k e y => ?_⟩
  obtain ⟨rfl, c, hc, rfl⟩ := y
  unfold signs at e
  rw [List.getElem?_map, Array.getElem?_toList, hc] at e
  cases e
  exact ⟨Keep.refl, .str _⟩
section
variable {J : It} {g : TG} {tt : TT} {te : TE} {vs : List Nat} {σ : L2.St} {H : Hp} {Q : VK}
/-- a comprehension that reads and makes new things alone -/
theorem lcT {α : Type} (W : Addr → Prop) (enc : α → PyData) (l : List α) (p : α → Bool) (f : α → PyData) (al : Al W H) (few : l.length < sizeLine) (Y : ∀ D, H D = none → Yv Nil (fun x => W x ∨ x = D) J H (l.map enc))
    (body : ∀ (D : Addr) (i : Nat) (x : V) (d : α) (H1 : Hp) (R : VK) (N : Hp → Prop), H D = none → l[i]? = some d → Keep Nil H H1 → Al (fun x => W x ∨ x = D) H1 → Rp (fun x => W x ∨ x = D) H1 x (enc d) →
      (∀ y H4, Keep Nil H1 H4 → Rp (fun x => W x ∨ x = D) H4 y (f d) → p d = true → R y H4) → (∀ H3, Keep Nil H1 H3 → p d = false → N H3) →
      g x (wipe σ vs) H1 fun σ2 H2 => wipe σ2 vs = wipe σ vs ∧ tt σ2 H2 fun b H3 => if b = true then te σ2 H3 R else N H3)
    (cont : ∀ (D : Addr) (H' : Hp), H D = none → Keep Nil H H' → Rp W H' (.ref D) (.list ((l.filter p).map f)) → Q (.ref D) H') : kLc J g tt te vs σ H Q := by
  intro D hD
  refine ⟨fun i m H' => m = l.length - i ∧ i ≤ l.length ∧ ∃ us, H' D = some (.lst us) ∧ RpA (fun x => W x ∨ x = D) H' us (((l.take i).filter p).map f) ∧ Keep Nil H H', ⟨_, rfl, Nat.zero_le _, [], upd_same, by simp; exact .nil, Keep.alloc hD⟩, ?_⟩
  rintro i m H1 ⟨rfl, hi, us, eD, ru, k1⟩
  have nD : ¬ W D := al D hD
  by_cases lt : i < l.length
  · refine .inr ⟨(Y D hD).go H1 i k1 (by rw [List.length_map]; exact lt), fun H' => ∃ us, H' D = some (.lst us) ∧ RpA (fun x => W x ∨ x = D) H' us (((l.take (i + 1)).filter p).map f) ∧ Keep Nil H H', fun H' h => ⟨l.length - (i + 1), by omega, rfl, lt, h⟩, fun x H2 hy => ?_⟩
    have hd := List.getElem?_eq_getElem lt
    obtain ⟨k2, rx⟩ := (Y D hD).yld H1 H2 i x (enc l[i]) k1 (by rw [List.getElem?_map, hd]; rfl) hy
    have k12 := k1.trans k2
    have eD2 := k2.get (fun z => z) eD
    have tk : l.take (i + 1) = l.take i ++ [l[i]] := by rw [List.take_succ, hd]; rfl
    refine body D i x _ H2 _ _ hD hd k12 ((al.same k12).one eD2) rx (fun y H5 k5 r5 hp => ?_) fun H4 k4 hp => ?_
    · have eD5 := k5.get (fun z => z) eD2
      have ru5 := ru.same (k2.trans k5)
      have kD : Keep (fun x => W x ∨ x = D) H5 (upd H5 D (.lst (us ++ [y]))) := Keep.refl.set (.inr rfl)
      refine ⟨us, eD5, ?_, us ++ [y], upd_same, ?_, (k12.trans k5).setN hD⟩
      · have h1 := ru.len
        have h2 := List.length_filter_le p (l.take i)
        rw [List.length_map] at h1
        rw [List.length_take] at h2
        omega
      · rw [tk, List.filter_append, List.map_append]
        have : [l[i]].filter p = [l[i]] := by simp [hp]
        rw [this]
        exact (ru5.keep kD).snoc (r5.keep kD)
    · refine ⟨us, k4.get (fun z => z) eD2, ?_, k12.trans k4⟩
      rw [tk, List.filter_append, List.map_append]
      have : [l[i]].filter p = [] := by simp [hp]
      rw [this, List.map_nil, List.append_nil]
      exact ru.same (k2.trans k4)
  · have e : i = l.length := by omega
    subst e
    rw [List.take_of_length_le (Nat.le_refl _)] at ru
    have st := (Y D hD).stop H1 k1
    rw [List.length_map] at st
    exact .inl ⟨st, cont D H1 hD k1 (.lst eD nD (ru.sub fun x h => .inl h))⟩
theorem filter_tt {α : Type} (l : List α) : (l.filter fun _ => true) = l := by simp
/-- a comprehension that changes W, by what is told of S; without a test -/
theorem lcS (W : Addr → Prop) (ds : List PyData) (S : Nat → List PyData → Hp → Prop) (few : ds.length < sizeLine) (al : Al W H) (Y : ∀ D, H D = none → Yv W (fun x => W x ∨ x = D) J H ds)
    (als : ∀ i out H1, S i out H1 → Al W H1)
    (S0 : S 0 [] H) (stab : ∀ D i out H1 H2, H D = none → Keep (fun x => x = D) H1 H2 → (∀ o, H1 D = some o → ∃ l, o = .lst l) → S i out H1 → S i out H2)
    (body : ∀ (D : Addr) (i : Nat) (x : V) (d : PyData) (out : List PyData) (H1 : Hp) (R : VK) (N : Hp → Prop), H D = none → ds[i]? = some d → out.length = i → Keep W H H1 → Al (fun x => W x ∨ x = D) H1 → Rp (fun x => W x ∨ x = D) H1 x d → S i out H1 →
      (∀ y H4 e, Keep W H1 H4 → Rp (fun x => W x ∨ x = D) H4 y e → S (i + 1) (out ++ [e]) H4 → R y H4) →
      g x (wipe σ vs) H1 fun σ2 H2 => wipe σ2 vs = wipe σ vs ∧ tYes σ2 H2 fun b H3 => if b = true then te σ2 H3 R else N H3)
    (cont : ∀ (D : Addr) (H' : Hp) (out : List PyData), H D = none → out.length = ds.length → Keep W H H' → S ds.length out H' → Rp W H' (.ref D) (.list out) → Q (.ref D) H') : kLc J g tYes te vs σ H Q := by
  intro D hD
  have nD : ¬ W D := al D hD
  refine ⟨fun i m H' => m = ds.length - i ∧ i ≤ ds.length ∧ ∃ us out, H' D = some (.lst us) ∧ out.length = i ∧ RpA (fun x => W x ∨ x = D) H' us out ∧ Keep W H H' ∧ S i out H',
    ⟨_, rfl, Nat.zero_le _, [], [], upd_same, rfl, .nil, Keep.alloc hD, stab D 0 [] H _ hD (Keep.refl.set rfl) (fun o e => by rw [hD] at e; cases e) S0⟩, ?_⟩
  rintro i m H1 ⟨rfl, hi, us, out, eD, lo, ru, k1, s1⟩
  by_cases lt : i < ds.length
  · refine .inr ⟨(Y D hD).go H1 i k1 lt, fun H' => ∃ us out, H' D = some (.lst us) ∧ out.length = i + 1 ∧ RpA (fun x => W x ∨ x = D) H' us out ∧ Keep W H H' ∧ S (i + 1) out H', fun H' h => ⟨ds.length - (i + 1), by omega, rfl, lt, h⟩, fun x H2 hy => ?_⟩
    have hd := List.getElem?_eq_getElem lt
    obtain ⟨k2, rx⟩ := (Y D hD).yld H1 H2 i x _ k1 hd hy
    have k12 := k1.trans k2.weak
    have eD2 := k2.get (fun z => z) eD
    have s2 := stab D i out H1 H2 hD k2.weak (fun o e => by rw [eD] at e; exact ⟨_, (Option.some.inj e).symm⟩) s1
    refine body D i x _ out H2 _ _ hD hd lo k12 ((als _ _ _ s2).one eD2) rx s2 fun y H5 e k5 r5 s5 => ?_
    have eD5 := k5 _ _ nD eD2
    have ru2 := ru.same k2
    have kD : Keep (fun x => x = D) H5 (upd H5 D (.lst (us ++ [y]))) := Keep.refl.set rfl
    have kW : Keep (fun x => W x ∨ x = D) H5 (upd H5 D (.lst (us ++ [y]))) := kD.mono fun _ h => .inr h
    refine ⟨us, eD5, ?_, us ++ [y], out ++ [e], upd_same, by rw [List.length_append, lo]; rfl, ?_, (k12.trans k5).setN hD, stab D _ _ _ _ hD kD (fun o q => by rw [eD5] at q; exact ⟨_, (Option.some.inj q).symm⟩) s5⟩
    · have h1 := ru.len
      omega
    · exact ((ru2.keep (k5.mono fun _ h => .inl h)).keep kW).snoc (r5.keep kW)
  · have e : i = ds.length := by omega
    subst e
    exact .inl ⟨(Y D hD).stop H1 k1, cont D H1 out hD lo k1 s1 (.lst eD nD (ru.sub fun x h => .inl h))⟩
end
end Hm

/-! F6: dicts keyed by pairs of ints: sorted(d). -/
namespace Hm
open PySem PySem.Spec PyProof.Rows L2
abbrev TX := List L2.Key × V
def pk (p : Int × Int) : List L2.Key := [Sum.inl p.1, Sum.inl p.2]
theorem pk_inj {p q : Int × Int} (h : pk p = pk q) : p = q := by
  unfold pk at h
  injection h with h1 h2
  injection h2 with h2 _
  injection h1 with h1
  injection h2 with h2
  exact Prod.ext h1 h2
/-- a list of pairs, sorted as Python sorts tuples -/
def RisP (l : List (Int × Int)) : Prop := l.Pairwise fun p q => SrtO.lexB q p = false
theorem risP_eq {l m : List (Int × Int)} (p : l.Perm m) (h1 : RisP l) (h2 : RisP m) : l = m :=
  List.Perm.eq_of_pairwise (fun a b _ _ h h' => by
    have h := SrtO.lexB_no.mp h
    have h' := SrtO.lexB_no.mp h'
    exact Prod.ext (by omega) (by omega)) h1 h2 p
def kH (H : Hp) (v : Value) : Int × Int := match v with
  | .ref a => match H a with
    | some (.tup [.int i, .int j]) => (i, j)
    | _ => (0, 0)
  | _ => (0, 0)
def adr (v : Value) : Addr := match v with
  | .ref a => a
  | _ => default
def PrT (H : Hp) (t : Addr) (p : Int × Int) : Prop := H t = some (.tup [.int p.1, .int p.2])
def uSortDictP : List V → Hp → VK → Prop := fun xs H Q => ∃ (a : Addr) (kvs : List TX) (ks : List (Int × Int)), xs = [.ref a] ∧ H a = some (.dT kvs) ∧ kvs.map (·.1) = ks.map pk ∧
  ∀ (bs : List Addr) (ys : List (Int × Int)) (p : Addr), ys.Perm ks → RisP ys → Paired (PrT H) bs ys → H p = none → Q (.ref p) (upd H p (.lst (bs.map V.ref)))
section
variable {X : Cx}
theorem cu_sortDictP (hcalm : X.calm = true) : CallR X (.builtin "sorted") uSortDictP := by
  intro pins s σ H xs us Q I r q
  obtain ⟨a, kvs, ks, rfl, hd, hks, q⟩ := q
  rw [Vals.ref1 r]
  obtain ⟨z, hs, kr, pr, o, es, ep, ho, hx, hdt, he, hn⟩ := (show ObjOk X.prog X.w H s.heap a (.dT kvs) from (Rd.of hd).ok I.hok)
  have l1 : es.size = kr.length := size_of_entries he
  have l2 : kvs.length = kr.length := Paired.length pr
  have hkr : kr.map (fun x => kH H (.ref x.2.1)) = ks ∧ ∀ x ∈ kr, H x.2.1 = some (.tup [.int (kH H (.ref x.2.1)).1, .int (kH H (.ref x.2.1)).2]) := by
    clear q hn he l1 l2 hd z
    induction pr generalizing ks with
    | nil =>
      cases ks with
      | nil => exact ⟨rfl, fun _ h => nomatch h⟩
      | cons _ _ => simp at hks
    | @cons p q ps qs h t ih =>
      cases ks with
      | nil => simp at hks
      | cons k ks =>
        rw [List.map_cons, List.map_cons] at hks
        injection hks with e1 e2
        obtain ⟨i1, i2⟩ := ih ks e2
        have hq : H q.2.1 = some (.tup [.int k.1, .int k.2]) := by rw [h.2.1, e1]; rfl
        have ek : kH H (.ref q.2.1) = k := by unfold kH; simp only [hq]
        refine ⟨by rw [List.map_cons, i1, ek], fun x hx => ?_⟩
        rcases List.mem_cons.mp hx with rfl | hx
        · rw [ek]; exact hq
        · exact i2 x hx
  obtain ⟨hk1, hk2⟩ := hkr
  refine Calls.call_function_entry kind_sorted plain_sorted entry_sorted (args_sorted1 _) ?_
  unfold Builtin.«sorted»
  refine wpAny_bind (m := checkCount "sorted" 1 1 _) (wpAny_pure ?_)
  refine wpAny_bind (PySem.W.kdu_collect (A := X.A.in1) (kdl_raw hs hx hdt) (I.ok.hd hcalm) ho (by omega) fun h' tk acc hk hacc => ?_)
  have ea : acc.toList = kr.map fun x => Value.ref x.2.1 := by
    have hl : acc.toList.length = kr.length := by rw [Array.length_toList, hacc.1]; exact l1
    apply List.ext_getElem?
    intro j
    rw [List.getElem?_map]
    cases hj : acc.toList[j]? with
    | none =>
      have h1 := List.getElem?_eq_none_iff.mp hj
      rw [List.getElem?_eq_none (by omega)]
      all_goals rfl
    | some v =>
      obtain ⟨en, hen, hv⟩ := hacc.2 j v (by rw [← Array.getElem?_toList]; exact hj)
      have qe := entry_at he j
      rw [hen] at qe
      cases hb : kr[j]? with
      | none =>
        rw [hb] at qe
        exact nomatch (show some en = none from qe)
      | some b =>
        rw [hb] at qe
        have e2 : en = entryOfKey (tupleKind (mixKind X.prog X.w)) b := Option.some.inj qe
        rw [hv, e2]
        all_goals rfl
  have I1 : Inv X pins σ H { s with heap := h', toks := tk } := I.kept hk
  have hal2 : acc.toList.length ≤ sizeLine := by rw [ea, List.length_map]; omega
  refine wpAny_bind (wpAny_newList ?_ hal2)
  have at1 : (h'.push (seqObj "list" acc.toList.toArray 0)).get? h'.objs.size = some (seqObj "list" acc.toList.toArray 0) := Heap.get?_push_size _ rfl
  show wpAny _ _ _ _ _ { s with heap := h'.push (seqObj "list" acc.toList.toArray 0), toks := tk }
  have isp : ∀ v ∈ acc.toList, Srt.IsPair (h'.push (seqObj "list" acc.toList.toArray 0)) v (kH H v).1 (kH H v).2 := fun v hv => by
    rw [ea] at hv
    obtain ⟨x, hx, rfl⟩ := List.mem_map.mp hv
    obtain ⟨_, its2, r2, o, ho, hc, n, hd⟩ := I1.hok _ _ (hk2 x hx)
    obtain ⟨u1, u2, rfl, ri, rj⟩ := vals2 r2
    obtain ⟨t1, rfl⟩ := ri
    obtain ⟨t2, rfl⟩ := rj
    exact ⟨x.2.1, o, t1, t2, n, rfl, Heap.get?_push_of_some _ ho, hc, hd⟩
  refine wpAny_bind (wpAny_holding (wpAny_call_entry slot_list_sort ⟨_, at1, rfl⟩ entry_list_sort
    (SrtO.list_sort_ord (SrtO.swo_lex (kH H)) (s := { s with heap := h'.push (seqObj "list" acc.toList.toArray 0), toks := tk }) at1 hal2 (fun h2 => SrtO.pairs_sortableO (by omega) isp fun o e => ?_) fun out z1 z2 => ⟨_, rfl, ?_⟩) (args_list_sort _)))
  · have e' : some o = some (seqObj "list" acc.toList.toArray 0) := e.symm.trans at1
    cases e'
    intro c
    exact absurd (Value.type.inj c) (by decide)
  obtain ⟨c, hc⟩ := sortedHeap_at (vs := acc.toList) (out := out.toArray) at1
  have outr : ∀ v ∈ out, ∃ x ∈ kr, v = Value.ref x.2.1 := fun v hv => by
    have := z2.perm.mem_iff.mp hv
    rw [ea] at this
    obtain ⟨x, hx, rfl⟩ := List.mem_map.mp this
    exact ⟨x, hx, rfl⟩
  have eo : out.map (fun v => Value.ref (adr v)) = out := by
    have : out.map (fun v => Value.ref (adr v)) = out.map id := List.map_congr_left fun v hv => by
      obtain ⟨x, _, rfl⟩ := outr v hv
      rfl
    rw [this, List.map_id]
  have hlen : ((out.map adr).map V.ref).length ≤ sizeLine := by
    rw [List.length_map, List.length_map, z2.perm.length_eq]; exact hal2
  have rv : Vals ((out.map adr).map V.ref) out := by
    have := vals_refs (out.map adr)
    rw [List.map_map (f := adr) (g := Value.ref), show (Value.ref ∘ adr) = fun v => Value.ref (adr v) from rfl, eo] at this
    exact this
  have pys : (out.map (kH H)).Perm ks := by
    have := z2.perm.map (kH H)
    rw [ea, List.map_map] at this
    rw [← hk1]; exact this
  have pp : Paired (PrT H) (out.map adr) (out.map (kH H)) := by
    clear pys rv hlen eo hc z1 z2 q
    induction out with
    | nil => exact .nil
    | cons v l ih =>
      refine .cons ?_ (ih fun v hv => outr v (List.mem_cons_of_mem _ hv))
      obtain ⟨x, hx, rfl⟩ := outr v List.mem_cons_self
      exact hk2 x hx
  refine wpAny_pure ⟨_, rfl, .ref h'.objs.size, upd H h'.objs.size (.lst ((out.map adr).map V.ref)), I1.laid (t' := tk) (fun b u e => ?_) (Nat.le_refl _)
    (show ObjOk X.prog X.w _ _ _ (.lst ((out.map adr).map V.ref)) from ⟨hlen, out, c, rv, hc⟩), rfl, q _ _ _ pys (List.pairwise_map.mpr z1) pp (I1.hok.fresh (Nat.le_refl _))⟩
  have hb : b < h'.objs.size := Heap.lt_size e
  rw [sortedHeap_old (Nat.ne_of_lt hb) (by rw [size_push']; exact Nat.lt_succ_of_lt hb)]
  exact Heap.get?_push_of_some _ e
end
theorem v_sortedP {a : Addr} {kvs : List TX} {ks : List (Int × Int)} {H : Hp} {Q : VK} (h : H a = some (.dT kvs)) (e : kvs.map (·.1) = ks.map pk) (k : ∀ (bs : List Addr) (ys : List (Int × Int)) (p : Addr), ys.Perm ks → RisP ys → Paired (PrT H) bs ys → H p = none → Q (.ref p) (upd H p (.lst (bs.map V.ref)))) : uSortDictP [.ref a] H Q :=
  ⟨a, kvs, ks, rfl, h, e, k⟩
/-- {k: v} with one flat tuple for a key -/
def uDispT (tk tv : TE) : TE := fun σ H Q => ∀ p, H p = none → tk σ (upd H p (.dT [])) fun x H1 => tv σ H1 fun y H2 =>
  ∃ (k : List L2.Key) (b : Addr), x = .ref b ∧ H2 p = some (.dT []) ∧ H2 b = some (.tup (k.map kV)) ∧ Q (.ref p) (upd H2 p (.dT [(k, y)]))
theorem pe_dispT {X : Cx} {ke ve : Expr} {tk tv : TE} {pos : Pos} (hu : X.A.units + 64 < cLine) (hk : PE X ke tk) (hv : PE X ve tv)
    (shape : (evalEachOpt [some ke] X.env).zip ((evalEach [ve] X.env).map fun v => do let x ← v; standAt pos; pure x) = [(eval ke X.env, (do let x ← eval ve X.env; standAt pos; pure x))].map fun p => (some p.1, p.2) := by rfl) :
    PE X (.Dict [some ke] [ve] pos) (uDispT tk tv) := by
  refine ⟨fun pins s σ H Q I h => ?_⟩
  have hn := I.hok.fresh (Nat.le_refl s.heap.objs.size)
  have I1 := I.laid (a := s.heap.objs.size) (o := .dT []) (h' := s.heap.push { cls := .type "dict", data := .dict #[] }) (t' := s.toks) (fun _ _ q => Heap.get?_push_of_some _ q) (Nat.le_refl _) (dt_empty s.heap I.big)
  have h1 : PPs X pos [some ke] [ve] [(tk, tv)] := pps_cons hk hv pps_nil
  have trees : pairTrees [some ke] [ve] X.env pos = [(eval ke X.env, (do let x ← eval ve X.env; standAt pos; pure x))] := by rfl
  have run := h1.run pins _ σ _ (fun ps H2 => match ps with
    | [(x, y)] => ∃ (k : List L2.Key) (b : Addr), x = .ref b ∧ H2 s.heap.objs.size = some (.dT []) ∧ H2 b = some (.tup (k.map kV)) ∧ Q (.ref s.heap.objs.size) (upd H2 s.heap.objs.size (.dT [(k, y)]))
    | _ => False) I1 (h _ hn)
  rw [trees] at run
  rw [arm_eval_Dict, shape, dictDisplay_pairs _ (by simp) (by simp)]
  refine wpAny_bind (wpAny_standAt (wpAny_bind (wpAny_subDictH (knd := tupleKind (mixKind X.prog X.w)) (show X.A.units < cLine by omega) (by simp) (thn run fun vs s2 hh => ?_))))
  obtain ⟨ps, H2, I2, rel, q⟩ := hh
  split at q
  · rename_i x y
    obtain ⟨k, b, rfl, e, eb, q⟩ := q
    cases rel with
    | @cons p1 q1 ps qs rr t =>
    cases t
    obtain ⟨u1, u2⟩ := q1
    obtain ⟨r1, r2⟩ := rr
    cases (show u1 = Value.ref b from r1)
    obtain ⟨z, hd, xs, rr, D⟩ := dt_of I2.hok e
    cases rr
    refine ⟨[(k, b, u2)], ⟨rfl, rfl, key_of I2.hok eb, True.intro⟩, D, fun h' tk' D' hs => wpAny_pure ⟨.ref s.heap.objs.size, _, ?_, rfl, q⟩⟩
    obtain ⟨q', es, ep, hq, h2, h3, h4, _, h5⟩ := id D'
    refine d_write I2 (by rw [e]; exact True.intro) hs ⟨q', hq⟩ ⟨by rw [sizeLine_eq]; exact (by decide : (1 : Nat) ≤ 16777216), hd, [(k, b, u2)], .cons ⟨rfl, ?_, r2⟩ .nil, q', es, ep, hq, h2, h3, h4, h5⟩
    show upd H2 _ _ b = _
    rw [upd_ne (ne_of eb e (fun z => nomatch z))]
    exact eb
  · exact q.elim
/-! ### loops that change one slot -/
section
variable {K : PySem.W.Frag} {a : Addr} {tb : TS} {D : Ends} {σ : L2.St} {H : Hp} {i : Nat}
theorem forI {l : List Int} (Pv : Nat → Hp → Prop) (hl : ∀ j H', Pv j H' → H' a = some (.lst (l.map V.int))) (o0 : Option V) (e0 : σ.set i o0 = σ) (h0 : Pv 0 H)
    (hs : ∀ j z H', l[j]? = some z → Pv j H' → tb { D with nx := fun s h => ∃ o, s = σ.set i o ∧ Pv (j + 1) h, ct := fun s h => ∃ o, s = σ.set i o ∧ Pv (j + 1) h, bk := D.nx } (σ.set i (some (.int z))) H')
    (hd : ∀ o H', Pv l.length H' → D.nx (σ.set i o) H') : kFor (Itl K a) (gName i) tb D σ H := by
  refine for_list (xs := l.map V.int) (fun j s H' => ∃ o, s = σ.set i o ∧ Pv j H') ⟨o0, e0.symm, h0⟩ (fun j s H' _ ⟨_, _, h⟩ => SqL.of (hl j H' h)) ?_ ?_
  · rintro j x s H' hj ⟨o, rfl, h⟩
    rw [List.getElem?_map] at hj
    obtain ⟨z, hz, rfl⟩ := Option.map_eq_some_iff.mp hj
    refine r_gname ?_
    rw [List.set_set]
    exact hs j z H' hz h
  · rintro s H' ⟨o, rfl, h⟩
    rw [List.length_map] at h
    exact hd o H' h
end
theorem forI2 {K : PySem.W.Frag} {a : Addr} {tb : TS} {D : Ends} {σ : L2.St} {H : Hp} {i k : Nat} {l : List Int} (Pv : Nat → Hp → Prop) (hl : ∀ j H', Pv j H' → H' a = some (.lst (l.map V.int))) (o0 p0 : Option V) (e0 : (σ.set i o0).set k p0 = σ) (hik : i ≠ k) (h0 : Pv 0 H)
    (hs : ∀ j z H' (p : Option V), l[j]? = some z → Pv j H' → tb { D with nx := fun s h => ∃ o p, s = (σ.set i o).set k p ∧ Pv (j + 1) h, ct := fun s h => ∃ o p, s = (σ.set i o).set k p ∧ Pv (j + 1) h, bk := D.nx } ((σ.set i (some (.int z))).set k p) H')
    (hd : ∀ o p H', Pv l.length H' → D.nx ((σ.set i o).set k p) H') : kFor (Itl K a) (gName i) tb D σ H := by
  refine for_list (xs := l.map V.int) (fun j s H' => ∃ o p, s = (σ.set i o).set k p ∧ Pv j H') ⟨o0, p0, e0.symm, h0⟩ (fun j s H' _ ⟨_, _, _, h⟩ => SqL.of (hl j H' h)) ?_ ?_
  · rintro j x s H' hj ⟨o, p, rfl, h⟩
    rw [List.getElem?_map] at hj
    obtain ⟨z, hz, rfl⟩ := Option.map_eq_some_iff.mp hj
    refine r_gname ?_
    rw [List.set_comm _ _ (Ne.symm hik), List.set_set]
    exact hs j z H' p hz h
  · rintro s H' ⟨o, p, rfl, h⟩
    rw [List.length_map] at h
    exact hd o p H' h
theorem r_ikeysT {td : TE} {σ : L2.St} {H : Hp} {R : It → Hp → Prop} (k : td σ H fun x H1 => ∃ d o, x = .ref d ∧ ((∃ kvs, H1 d = some (.frz o (.dK kvs)) ∧ R (Itk d o kvs) H1) ∨ ∃ kvs, H1 d = some (.frz o (.dT kvs)) ∧ R (Itkt d o kvs) H1)) : iKeys td σ H R := k
/-- a walk over the keys of a dict that is locked for it -/
theorem forT {d : Addr} {o : Obj} {kvs : List TX} {ks : List (Int × Int)} {g : TG} {tb : TS} {D : Ends} {σ : L2.St} {H : Hp} (ke : kvs.map (·.1) = ks.map pk) (Pv : Nat → L2.St → Hp → Prop) (h0 : Pv 0 σ H) (hl : ∀ j σ H, Pv j σ H → H d = some (.frz o (.dT kvs)))
    (hs : ∀ j z q σ H, ks[j]? = some z → Pv j σ H → PrT H q z → g (.ref q) σ H fun σ2 H2 => tb { D with nx := Pv (j + 1), ct := Pv (j + 1), bk := D.nx } σ2 H2)
    (hd : ∀ σ H, Pv ks.length σ H → D.nx σ H) : kFor (Itkt d o kvs) g tb D σ H := by
  have len : kvs.length = ks.length := by have := congrArg List.length ke; rw [List.length_map, List.length_map] at this; exact this
  refine ⟨fun i m σ H => m = ks.length - i ∧ i ≤ ks.length ∧ Pv i σ H, ⟨_, rfl, Nat.zero_le _, h0⟩, ?_⟩
  rintro i m σ H ⟨rfl, hi, p⟩
  by_cases lt : i < ks.length
  · refine .inr ⟨⟨hl _ _ _ p, by omega⟩, Pv (i + 1), fun σ' H' p' => ⟨ks.length - (i + 1), by omega, rfl, lt, p'⟩, fun x H' y => ?_⟩
    obtain ⟨rfl, k, v, q, e1, rfl, e2⟩ := y
    have hz := List.getElem?_eq_getElem lt
    have e3 : (kvs.map (·.1))[i]? = some k := by rw [List.getElem?_map, e1]; rfl
    rw [ke, List.getElem?_map, hz] at e3
    cases e3
    exact hs i _ q σ _ hz p e2
  · have e : i = ks.length := by omega
    subst e
    exact .inl ⟨⟨hl _ _ _ p, by omega⟩, hd σ H p⟩
theorem lock_keep {M : Addr → Prop} {H H' : Hp} {d : Addr} {u f : HO} (h : H d = some u) (k : Keep M (upd H d f) H') : Keep M H (upd H' d u) := fun a o n e => by
  by_cases z : a = d
  · subst z
    rw [h] at e; rw [upd_same]; exact e
  · rw [upd_ne z]
    exact k a o n (by rw [upd_ne z]; exact e)
theorem find_at {α : Type} {p : α → Bool} {l : List α} {j : Nat} {x : α} (h : l[j]? = some x) (n : ∀ y ∈ l.take j, p y = false) (hx : p x = true) : l.find? p = some x := by
  have e : l = l.take j ++ x :: l.drop (j + 1) := by
    obtain ⟨hl, rfl⟩ := List.getElem?_eq_some_iff.mp h
    rw [List.getElem_cons_drop, List.take_append_drop]
  rw [e, List.find?_append, List.find?_eq_none.mpr (fun y hy => by simp [n y hy]), Option.none_or, List.find?_cons_of_pos hx]
theorem find_no {α : Type} {p : α → Bool} {l : List α} (n : ∀ y ∈ l, p y = false) : l.find? p = none := List.find?_eq_none.mpr fun y hy => by simp [n y hy]
theorem take_snoc {α : Type} {l : List α} {j : Nat} {x : α} (h : l[j]? = some x) {P : α → Prop} (a : ∀ y ∈ l.take j, P y) (b : P x) : ∀ y ∈ l.take (j + 1), P y := fun y hy => by
  rw [List.take_succ, h] at hy
  rcases List.mem_append.mp hy with q | q
  · exact a y q
  · cases List.mem_singleton.mp q; exact b
/-! ### a text among texts -/
theorem inV_str {z : Str} (os : List Str) : inV (.str z) (os.map V.str) = decide (z ∈ os) := by
  unfold inV
  rw [List.any_map]
  by_cases h : z ∈ os
  · rw [decide_eq_true h]
    exact List.any_eq_true.mpr ⟨z, h, by simp [Function.comp, eqV]⟩
  · rw [decide_eq_false h]
    exact List.any_eq_false.mpr fun y hy => by
      simp only [Function.comp, eqV, beq_iff_eq]
      exact fun e => h (e ▸ hy)
theorem flat_strs : ∀ os : List Str, (os.map V.str).all flatV = true
  | [] => rfl
  | x :: r => by rw [List.map_cons, List.all_cons, flat_strs r]; rfl
theorem v_ninSt {P : Program} {w : World} {K : PySem.W.Frag} {H : Hp} {Q : VK} {l : Addr} {os : List Str} {z : Str} (h : H l = some (.tup (os.map V.str))) (q : Q (.bl (!decide (z ∈ os))) H) : cNotIn P w K (.str z) (.ref l) H Q :=
  .inl ⟨l, os.map V.str, rfl, .inr (SqT.of h), rfl, flat_strs os, by rw [if_pos rfl, inV_str]; exact q⟩
theorem v_inSt {P : Program} {w : World} {K : PySem.W.Frag} {H : Hp} {Q : VK} {l : Addr} {os : List Str} {z : Str} (h : H l = some (.tup (os.map V.str))) (q : Q (.bl (decide (z ∈ os))) H) : cIn P w K (.str z) (.ref l) H Q :=
  .inl ⟨l, os.map V.str, rfl, .inr (SqT.of h), rfl, flat_strs os, by rw [if_neg (by decide), inV_str]; exact q⟩
theorem v_ninSl {P : Program} {w : World} {K : PySem.W.Frag} {H : Hp} {Q : VK} {l : Addr} {os : List Str} {z : Str} (h : H l = some (.lst (os.map V.str))) (q : Q (.bl (!decide (z ∈ os))) H) : cNotIn P w K (.str z) (.ref l) H Q :=
  .inl ⟨l, os.map V.str, rfl, .inl (SqL.of h), rfl, flat_strs os, by rw [if_pos rfl, inV_str]; exact q⟩
theorem v_inSl {P : Program} {w : World} {K : PySem.W.Frag} {H : Hp} {Q : VK} {l : Addr} {os : List Str} {z : Str} (h : H l = some (.lst (os.map V.str))) (q : Q (.bl (decide (z ∈ os))) H) : cIn P w K (.str z) (.ref l) H Q :=
  .inl ⟨l, os.map V.str, rfl, .inl (SqL.of h), rfl, flat_strs os, by rw [if_neg (by decide), inV_str]; exact q⟩
theorem RpA.bools_ {W : Addr → Prop} {H : Hp} : ∀ {l : List Bool} {vs : List V}, RpA W H vs (l.map .bool) → vs = l.map V.bl
  | [], _, h => h.nil_
  | x :: l, _, h => by
    obtain ⟨v, r, rfl, h1, h⟩ := h.cons_
    rw [h1.bool_, RpA.bools_ h]; rfl
theorem inV_bl {z : Bool} (os : List Bool) : inV (.bl z) (os.map V.bl) = decide (z ∈ os) := by
  unfold inV
  rw [List.any_map]
  by_cases h : z ∈ os
  · rw [decide_eq_true h]
    exact List.any_eq_true.mpr ⟨z, h, by simp [Function.comp, eqV]⟩
  · rw [decide_eq_false h]
    exact List.any_eq_false.mpr fun y hy => by
      simp only [Function.comp, eqV, beq_iff_eq]
      exact fun e => h (e ▸ hy)
theorem flat_bls : ∀ os : List Bool, (os.map V.bl).all flatV = true
  | [] => rfl
  | x :: r => by rw [List.map_cons, List.all_cons, flat_bls r]; rfl
theorem v_inBl {P : Program} {w : World} {K : PySem.W.Frag} {H : Hp} {Q : VK} {W : Addr → Prop} {x : V} {os : List Bool} {z : Bool} (h : Rp W H x (.list (os.map .bool))) (q : Q (.bl (decide (z ∈ os))) H) : cIn P w K (.bl z) x H Q := by
  obtain ⟨l, xs, rfl, e, _, r⟩ := h.list_
  rw [r.bools_] at e
  exact .inl ⟨l, os.map V.bl, rfl, .inl (SqL.of e), rfl, flat_bls os, by rw [if_neg (by decide), inV_bl]; exact q⟩
theorem v_ninBl {P : Program} {w : World} {K : PySem.W.Frag} {H : Hp} {Q : VK} {W : Addr → Prop} {x : V} {os : List Bool} {z : Bool} (h : Rp W H x (.list (os.map .bool))) (q : Q (.bl (!decide (z ∈ os))) H) : cNotIn P w K (.bl z) x H Q := by
  obtain ⟨l, xs, rfl, e, _, r⟩ := h.list_
  rw [r.bools_] at e
  exact .inl ⟨l, os.map V.bl, rfl, .inl (SqL.of e), rfl, flat_bls os, by rw [if_pos rfl, inV_bl]; exact q⟩
/-! ### dicts keyed by pairs, truths in them -/
def BlV (kvs : List TX) : Prop := ∀ k v, valV kvs k = some v → ∃ b, v = .bl b
def gK (kvs : List TX) (x y : Int) : Bool := match valV kvs (pk (x, y)) with
  | some (.bl b) => b
  | _ => false
theorem gK_get {kvs : List TX} (h : BlV kvs) (x y : Int) : (valV kvs (pk (x, y))).getD (.bl false) = .bl (gK kvs x y) := by
  unfold gK
  cases e : valV kvs (pk (x, y)) with
  | none => rfl
  | some v =>
    obtain ⟨b, rfl⟩ := h _ v e
    rfl
theorem r_dg2 {td ty tx : TE} {σ : L2.St} {H : Hp} {Q : VK} (k : td σ H fun x H1 => ∃ a, x = .ref a ∧ IsD H1 a ∧ ty σ H1 fun y H2 => tx σ H2 fun z H3 => ∃ o, DGet H3 a y o ∧ Q (o.getD z) H3) : tDGet2 td ty tx σ H Q := k
/-- d.get((x, y), False), x and y in slots -/
theorem r_getP {ik ia ib : Nat} {kn : Addr} {kvs : List TX} {x y : Int} {σ : L2.St} {H : Hp} {Q : VK} (hk : σ[ik]? = some (some (.ref kn))) (ha : σ[ia]? = some (some (.int x))) (hb : σ[ib]? = some (some (.int y))) (e : Rd H kn (.dT kvs)) (bl : BlV kvs)
    (q : ∀ H', Keep Nil H H' → Q (.bl (gK kvs x y)) H') : tDGet2 (tVar ik) (tTup (tCons (tVar ia) (tCons (tVar ib) tNil))) (tC (.bl false)) σ H Q := by
  refine r_dg2 (r_var hk ⟨kn, rfl, .inr ⟨kvs, e⟩, r_tup (r_cons (r_var ha (r_cons (r_var hb (r_nil (r_ktup (by simp) fun p hp => r_c ?_))))))⟩)
  have kp : Keep Nil H (upd H p (.tup [.int x, .int y])) := Keep.alloc hp
  have e' : Rd (upd H p (.tup [.int x, .int y])) kn (.dT kvs) := e.imp (fun z => kp.get (fun z => z) z) fun ⟨o, z⟩ => ⟨o, kp.get (fun z => z) z⟩
  have g : DGet (upd H p (.tup [.int x, .int y])) kn (.ref p) (valV kvs (pk (x, y))) := .inr ⟨kvs, pk (x, y), p, e', rfl, upd_same, rfl⟩
  exact ⟨_, g, by rw [gK_get bl]; exact q _ kp⟩
end Hm

/-! F7: an except suite in which the error is known: isinstance of it there, calls of defs there. -/
namespace Hm
open PySem PySem.Spec PyProof.Rows L2
section
variable {X : Cx} {pins : List (Addr × Obj)} {σ : L2.St} {H : Hp} {s : Shared}
theorem suiteM (I : Inv X pins σ H s) (a : Addr) : Inv (X.suite a (X.pn ++ pins)) [] σ H s :=
  ⟨I.ok.suite _ _, I.os, I.bare, I.base, I.loc, I.cell, I.free, I.freeC, fun p hp => I.pin p (by rw [List.append_nil] at hp; exact hp), I.hok, I.len⟩
theorem unsuiteM {a : Addr} {pn' : List (Addr × Obj)} (I : Inv (X.suite a (X.pn ++ pins)) pn' σ H s) (ok : X.Ok) : Inv X pins σ H s :=
  ⟨ok, I.os, I.bare, I.base, I.loc, I.cell, I.free, I.freeC, fun p hp => I.pin p (List.mem_append_left _ hp), I.hok, I.len⟩
end
/-- what a clause «except c as n» wishes, the error known in its suite -/
def wValW (K : PySem.W.Frag) (c : Value) (i : Nat) (ts : Addr → Value → TS) (Wout : WX) (D : Ends) : WX := fun cls d σ H =>
  d = none ∧ ∃ b, PySem.W.exmOne K cls c = some b ∧
    (b = true → ∀ a, H a = none → ts a cls { nx := fun σ' H' => D.nx (σ'.set i none) H', rt := D.rt, bk := fun _ _ => False, ct := fun _ _ => False } (σ.set i (some (.ref a))) (upd H a (ExV cls a))) ∧ (b = false → Wout cls d σ H)
section
variable {X : Cx} {x n : Str} {c : Value} {i : Nat} {body suite : List Stmt} {b₀ : Stmt} {np pos pos' : Pos} {tb : WX → TS} {ts : Addr → Value → TS} {Wout : WX}
/-- try: body, except x as n: suite; what is caught stays an object that is known -/
theorem ps_try_valW (hs : X.stack = X.env :: X.outer) (hf : X.env.frame = some X.env.locals) (hN : X.N.Nodup) (hi : X.N[i]? = some n) (hln : X.env.kindOf n = some .local) (hc : Names X x c) (tk : Takes X Wout) (hex : X.ex = [])
    (hb : ∀ (W : WX) (pn : List (Addr × Obj)) (xe : Value → Shared → Prop), Takes (X.tr pn xe) W → PassesOwn (model X.prog X.w) X.A X.env xe → PSs (X.tr pn xe) body (tb W))
    (hsu : ∀ (a : Addr) (cls : Value) (pn : List (Addr × Obj)), PSs (X.suite a pn) (b₀ :: suite) (ts a cls)) :
    PS X (.Try body [.ExceptHandler (some (.Name x np)) (some n) (b₀ :: suite) pos'] [] [] pos) (fun D σ H => tb (wValW X.K c i ts Wout D) D σ H) := by
  refine ⟨fun pins s σ H D I h => wpAny_Try_except ?_⟩
  have ok := I.ok
  have hfr : X.A.frames = some (X.env :: X.outer) := by rw [ok.frames, hs]
  have run := (hb (wValW X.K c i ts Wout D) (X.pn ++ pins) (fun e s₁ => wpAny (model X.prog X.w) X.A (noteFrame e X.env) (fun _ s₂ => wpAny (model X.prog X.w) X.A (setFlight e none)
    (fun _ s₃ => wpAny (model X.prog X.w) X.A (handleBy e X.env [.ExceptHandler (some (.Name x np)) (some n) (b₀ :: suite) pos']) (SP X pins D) X.xe s₃) X.xe s₂) X.xe s₁) ?_ PassesOwn.looking).run [] s σ H D (I.toTry _) h
  · refine wpAny_mono run (fun f s1 hsp => ?_) fun _ _ z => z
    cases f with
    | next => obtain ⟨σ', H', J', q⟩ := hsp; exact wpAny_execs_nil ⟨σ', H', J'.ofTry ok, q⟩
    | brk => obtain ⟨σ', H', J', q⟩ := hsp; exact ⟨σ', H', J'.ofTry ok, q⟩
    | cont => obtain ⟨σ', H', J', q⟩ := hsp; exact ⟨σ', H', J'.ofTry ok, q⟩
    | ret u => obtain ⟨v, σ', H', J', r, q⟩ := hsp; exact ⟨v, σ', H', J'.ofTry ok, r, q⟩
  rintro u s' ⟨a, B, sI, pins', σ', H', cls, d, rfl, J', nb, up, sky, na, os, ag, rfl, b, hb1, hyes, hno⟩
  have J : Inv X pins σ' H' sI := J'.ofTry ok
  have air : Sky B (X.env :: X.outer) a (Zc cls none) X.env.locals s'.heap := by rw [← hs]; exact sky
  show wpAny (model X.prog X.w) X.A (noteFrame (.ref a) X.env) _ _ _
  refine Sky.land Zc.steady hfr hf air fun h3 fl3 up3 => ?_
  have J3 : Inv X pins σ' H' { s' with heap := h3 } := J.landed nb fl3.1 (up.trans up3) os ag
  obtain ⟨oe3, vs3, he3, hz3, hd3⟩ := fl3.there
  have aside : a ∉ frs (X.env :: X.outer) := fun hm => by
    obtain ⟨_, o', e', hnf⟩ := fl3.2.2.1.mem hm
    rw [he3] at e'; cases e'
    exact hnf _ hd3
  have gI : sI.heap.get? a = none := by
    cases e : sI.heap.get? a with
    | none => rfl
    | some o =>
      have q := nb a o e (by show a ∉ frs X.stack; rw [hs]; exact aside)
      rw [fl3.2.1] at q; cases q
  have nL : a ≠ X.env.locals := fun z => aside (List.mem_filterMap.mpr ⟨X.env, List.mem_cons_self, by rw [hf, z]⟩)
  have nF : a ∉ X.fs := fun hm => by
    obtain ⟨e, he, q⟩ := List.mem_filterMap.mp hm
    exact aside (List.mem_filterMap.mpr ⟨e, List.mem_cons_of_mem _ he, q⟩)
  have h00 : X.s_0.heap.get? a = none := by
    cases e : X.s_0.heap.get? a with
    | none => rfl
    | some o =>
      obtain ⟨o', q⟩ := J.base.there a o e (by rw [hex]; exact List.not_mem_nil)
      rw [gI] at q; cases q
  have noCell : ∀ y k, X.env.cells.lookup y = some k → k ≠ a := fun y k e z => by
    obtain ⟨v, o, q, _⟩ := J.cell y k e
    rw [z, gI] at q; cases q
  have noPin : ∀ p ∈ X.pn ++ pins, p.1 ≠ a := fun p hp z => by
    have q := (J.pin p hp).1
    rw [z, gI] at q; cases q
  have S3 := J3.suite he3 hd3 na nL nF
  refine wpAny_handleBy_cons (codeAny_handlers_test ?_) (by intro q; cases q)
  have LT : PySem.W.Looks (model X.prog X.w) h3 (typeOf (.ref a)) cls := fun A Q E s k q => wpAny_typeOf_ref (k _ _ he3) (by rw [hz3.1]; exact q)
  have LM := PySem.W.exm_one (M := model X.prog X.w) (J3.kIn) LT hb1
  have test : ∀ {Q : Value → Shared → Prop} {E : Value → Shared → Prop}, Q c { s' with heap := h3 } → wpAny (model X.prog X.w) (X.A.mark (some (.ref a))) (eval (.Name x np) X.env) Q E { s' with heap := h3 } := fun {Q E} q => by
    obtain ⟨hg, hdbg, hm | ⟨hm, hv, hnn⟩⟩ := hc
    · exact ld_glob (X := X.suite a ((a, oe3) :: (X.pn ++ pins))) S3 hg hm q hdbg
    · exact ld_blt (X := X.suite a ((a, oe3) :: (X.pn ++ pins))) S3 hg hm hv q hnn hdbg
  refine test (LM.here ?_)
  cases b with
  | false =>
    show wpAny _ X.A (handleBy (.ref a) X.env []) _ _ _
    refine wpAny_handleBy_nil ?_
    obtain ⟨k1, k2, k3, oe, vs, T, oT, ts', he, hz, hd, h1, hr⟩ := id fl3
    unfold PySem.passOn
    refine wpAny_bind (wpAny_field he hd h1 ?_)
    rw [if_neg (show ¬ ((Value.ref T == Value.none) = true) from by simp)]
    have fin : wpAny (model X.prog X.w) X.A (setFlight (.ref a) X.env.frame) (fun _ s4 => wpAny (model X.prog X.w) X.A (throw (.ref a) : Sem Flow) (SP X pins D) X.xe s4) X.xe { s' with heap := h3 } := by
      rw [hf]
      refine HandSPX.setFlight_upZ fl3 fun h4 hh4 up4 => wpAny_throw (tk _ _ ?_)
      exact ⟨a, B, sI, pins, σ', H', cls, none, rfl, J, nb, (up.trans up3).trans up4, .inr (.inr (by rw [hs]; exact hh4)), na, os, ag, hno rfl⟩
    first
      | exact wpAny_bind (wpAny_pure (wpAny_bind fin))
      | exact wpAny_bind fin
  | true =>
    refine codeAny_handlers_suite_as (HandSPX.lands_againZ fl3 fun h4 fl4 up4 => ?_)
    have J4 : Inv X pins σ' H' { s' with heap := h4 } := J.landed nb fl4.1 ((up.trans up3).trans up4) os ag
    obtain ⟨oe4, vs4, he4, hz4, hd4⟩ := fl4.there
    have S3' : Inv (X.suite a (X.pn ++ pins)) [] σ' H' { s' with heap := h4 } := suiteM J4 a
    have S4 := show_ (φ := fun h => ∃ (oe : Obj) (vs : Array Value), h.get? a = some oe ∧ Zc cls none oe ∧ oe.data = .fields vs) S3' na h00 nL.symm noCell (fun p hp => noPin p (by rw [List.append_nil] at hp; exact hp)) (exV_ok he4 hz4 hd4)
    refine store_ok (X := X.suite a (X.pn ++ pins)) (v := .ref a) S4 hN hi (.inl hln) rfl (fun s5 S5 => ?_) (.inr hln)
    refine wpAny_mono ((hsu a cls (X.pn ++ pins)).run [] s5 _ _ _ S5 (hyes rfl a na)) (fun f s6 hsp => ?_) (fun _ _ z => False.elim z)
    cases f with
    | next =>
      obtain ⟨σ6, H6, S6, q6⟩ := hsp
      exact gone_ok (unsuiteM S6 ok) hN hi hln fun s7 J8 => ⟨_, _, J8, q6⟩
    | brk => obtain ⟨σ6, H6, S6, q6⟩ := hsp; exact q6.elim
    | cont => obtain ⟨σ6, H6, S6, q6⟩ := hsp; exact q6.elim
    | ret u =>
      obtain ⟨v6, σ6, H6, S6, r6, q6⟩ := hsp
      exact gone_ok (unsuiteM S6 ok) hN hi hln fun s7 J7 => ⟨_, _, _, J7, r6, q6⟩
end
/-! ### defs that are called in an except suite -/
structure FnM (P : Program) (w : World) (K : PySem.W.Frag) (mg : Str → Option Value) (base : Heap) (CX : CXT) (k : Nat) (f : Addr) (fd : FuncData) (ps : List Str) (sp : Sp) : Prop where
  len : ∀ vs H Q E, sp vs H Q E → vs.length = ps.length
  run : ∀ (A : Around) (outer : List Env) (s : Shared) (H : Hp) (args : Args) (us : List Value) (vs : List V) (Q : VK) (E : XK), L2H.RoomH k A → Env0 P w K mg base A outer s H → BindsTo s fd args (ps.zip us) → Vals vs us → sp vs H Q E →
    codeAny (model P w) A (.call (.ref f) args) (CR CX outer P w H s Q E) s
def cxM (CX : CXT) (P : Program) (w : World) (K : PySem.W.Frag) (mg : Str → Option Value) (base : Heap) (N : List Str) (qual : Str) (scope : Scope) (f : Addr) (cd : Value) (A : Around) (outer : List Env) (s : Shared) (H : Hp) (E : XK) : Cx :=
  { cxOf CX P w K mg base N qual scope f cd A outer s H E with calm := false }
theorem inv_startM {CX : CXT} {P : Program} {w : World} {K : PySem.W.Frag} {mg : Str → Option Value} {base : Heap} {N ps : List Str} {qual : Str} {scope : Scope} {f : Addr} {cd : Value} {A : Around} {outer : List Env} {s s1 : Shared} {H : Hp} {E : XK} {us : List Value} {vs : List V}
    (S : FnScope N ps scope) (e0 : Env0 P w K mg base A outer s H) (hl : vs.length = ps.length) (r : Vals vs us)
    (x : InCallC s s.heap.objs.size (bindL (envOfC qual scope s.heap.objs.size f cd).kindOf (ps.zip us) fun _ => none) (cellsFrom (s.heap.objs.size + 1) scope.names []) (bindC (envOfC qual scope s.heap.objs.size f cd).kindOf (ps.zip us) fun _ => none) s1) :
    Inv (cxM CX P w K mg base N qual scope f cd A outer s H E) [] (L2.start N vs) H s1 := by
  have I := inv_start (CX := CX) (E := E) (A := { A with handled := none }) S rfl ⟨e0.frames, e0.mod, e0.bs, e0.bsz, e0.funs, e0.frf, e0.hok, e0.bare⟩ hl r x
  have o := I.ok
  exact ⟨⟨o.mod, o.kind, o.glob, o.blt, o.above, o.inj, o.has, o.cab, fun z => Bool.noConfusion (show false = true from z), Around.frames_deeper e0.frames, o.stk, o.exf, o.bs, o.bsz, o.noex, o.exfs, o.funs, o.frf⟩, I.os, I.bare, I.base, I.loc, I.cell, I.free, I.freeC, I.pin, I.hok, I.len⟩
theorem fn_ofM {P : Program} {w : World} {K : PySem.W.Frag} {mg : Str → Option Value} {base : Heap} {k : Nat} {x qual : Str} {st : Stmt} {f : Addr} {fd : FuncData} {N ps : List Str} {sp : Sp} (F : Fun K x qual st f fd) (S : FnScope N ps (defScope st))
    (len : ∀ vs H Q E, sp vs H Q E → vs.length = ps.length)
    (hbody : ∀ (cdv : Value) (A : Around) (outer : List Env) (s : Shared) (H : Hp) (vs : List V) (Q : VK) (E : XK), L2H.RoomH k (A.deeper (envOfC qual (defScope st) s.heap.objs.size f cdv)) → sp vs H Q E →
      ∃ t, PSs (cxM CX0 P w K mg base N qual (defScope st) f cdv A outer s H E).nox (defBody st) t ∧ t { nx := fun _ H' => Q .non H', rt := Q } (L2.start N vs) H) :
    FnM P w K mg base CX0 (k + 1) f fd ps sp := by
  obtain ⟨oc, od, kV, doc, pm, an, cdv, ct, osl, rfl, lk, hcd⟩ := F.ex
  refine ⟨len, fun A outer s H args us vs Q E hr e0 hb r hsp => ?_⟩
  have KX : K.In s.heap := e0.mod.kin.keeps fun b o e => (e0.bs b o e).1
  refine codeAny_call_function hr.depth (KX _ _ lk) rfl S.co S.gen rfl (PySem.W.codeRec_of KX hcd) (hb _ _ _ _ ?_)
  refine wpAny_newFunctionEnv_cells S.kind (fun ⟨n, v⟩ hy => (S.par n (List.of_mem_zip hy).1).imp id fun q => ⟨q, PySem.W.cellsFrom_some _ _ _ (.inl q)⟩) fun env he s1 x => ?_
  subst he
  refine ⟨(e0.mod.nolimit.keeps fun b o e => (e0.bs b o e).1).keeps x.toInCall.keep, codeAny_func ?_⟩
  obtain ⟨t, ht, hq⟩ := hbody cdv A outer s H vs Q E (hr.deeper _) hsp
  refine wpAny_mono (ht.nox.run [] s1 (L2.start N vs) H _ (inv_startM S e0 (len _ _ _ _ hsp) r x) hq) (fun fl s' hs => ?_) fun e s' hs => hs
  cases fl with
  | ret u =>
    obtain ⟨v, σ', H', J, rv, q⟩ := hs
    exact ⟨v, H', J.os, J.bare, J.base, J.hok, rv, q⟩
  | next =>
    obtain ⟨σ', H', J, q⟩ := hs
    exact ⟨V.non, H', J.os, J.bare, J.base, J.hok, rfl, q⟩
  | brk =>
    obtain ⟨_, _, _, q⟩ := hs
    exact q.elim
  | cont =>
    obtain ⟨_, _, _, q⟩ := hs
    exact q.elim
structure CalM (P : Program) (w : World) (K : PySem.W.Frag) (mg : Str → Option Value) (base : Heap) (k : Nat) (x : Str) (sp : Sp) : Prop where
  ex : ∃ (f : Addr) (fd : FuncData) (ps : List Str), FnM P w K mg base CX0 k f fd ps sp ∧ mg x = some (.ref f) ∧ PySem.W.keepIn K (.ref f) = true ∧ Binds K fd ps []
section
variable {X : Cx} {k j : Nat} {x m : Str} {sp : Sp} {p pos apos : Pos} {e o : Expr} {es : List Expr} {ta : TE} {t : TA}
theorem e_callM (c : CalM X.prog X.w X.K X.mg X.base k x sp) (hr : L2H.RoomH j X.A) (hk : k ≤ j) (hg : Gl X x) (ha : PA X (e :: es) t)
    (hdb : (x == ("__debug__" : Str)) = false := by decide) (he : starEach (e :: es) X.env = (false, eval e X.env) :: starEach es X.env := by rfl) (hpl : (backTo pos (starEach es X.env)).any (·.1) = false := by rfl) :
    PE X (.Call (.Name x p) (e :: es) [] pos) (tCall sp [] E0 t) := by
  obtain ⟨f, fd, ps, F, hm, kp, b⟩ := c.ex
  refine ⟨fun pins s σ H Q I h => ?_⟩
  refine wpAny_Call_Name_kw (ld_glob I hg hm ?_ hdb)
  refine PySem.W.callWith_K (h₀ := X.base) I.ok.mod.kin kp (thn (ha.run pos pins s σ H _ I h) fun us s1 ⟨vs, H1, I1, r, q⟩ => ⟨I1.kIn, ?_⟩) he hpl
  have q : sp vs H1 Q E0 := by
    have q' : sp (vs ++ []) H1 Q E0 := q
    simpa only [List.append_nil] using q'
  have hl : us.length = ps.length := by rw [← r.length]; exact F.len _ _ _ _ q
  have b' := b s1 us I1.kIn (by rw [List.append_nil]; exact hl)
  rw [List.append_nil] at b'
  refine wpAny_call (codeAny_mono (F.run X.A X.stack s1 H1 ⟨us, []⟩ us vs Q E0 (hr.mono hk) I1.env0 b' r q) fun r s' hq => ?_)
  cases r with
  | error e => exact hq.elim
  | ok fl =>
    cases fl with
    | ret u => exact I1.after hq
    | next => exact False.elim hq
    | brk => exact False.elim hq
    | cont => exact False.elim hq
end
theorem hu64M {k : Nat} {A : Around} (r : L2H.RoomH k A) : A.units + 64 < cLine := by have := r.un; omega
theorem hu65M {k : Nat} {A : Around} (r : L2H.RoomH k A) : A.units + 65 < cLine := by have := r.un; omega
/-! ### try -/
def tTryW (K : PySem.W.Frag) (c : Value) (i : Nat) (ts : TS) (tb : WX → TS) : TS := fun D σ H => tb (wValW K c i (fun _ _ => ts) (fun _ _ _ _ => False) D) D σ H
theorem r_tryW {K : PySem.W.Frag} {c : Value} {i : Nat} {ts : TS} {tb : WX → TS} {D : Ends} {σ : L2.St} {H : Hp} (h : tb (wValW K c i (fun _ _ => ts) (fun _ _ _ _ => False) D) D σ H) : tTryW K c i ts tb D σ H := h
theorem w_valW {K : PySem.W.Frag} {c cls : Value} {i : Nat} {ts : TS} {D : Ends} {σ : L2.St} {H : Hp} (hm : PySem.W.exmOne K cls c = some true)
    (h : ∀ a, H a = none → ts { nx := fun σ' H' => D.nx (σ'.set i none) H', rt := D.rt, bk := fun _ _ => False, ct := fun _ _ => False } (σ.set i (some (.ref a))) (upd H a (ExV cls a))) : wValW K c i (fun _ _ => ts) (fun _ _ _ _ => False) D cls none σ H :=
  ⟨rfl, true, hm, fun _ a ha => h a ha, fun z => nomatch z⟩
section
variable {X : Cx} {x n : Str} {c : Value} {i : Nat} {body suite : List Stmt} {b₀ : Stmt} {np pos pos' : Pos} {tb : WX → TS} {ts : TS}
theorem ps_tryW (hs : X.stack = X.env :: X.outer) (hf : X.env.frame = some X.env.locals) (hN : X.N.Nodup) (hi : X.N[i]? = some n) (hln : X.env.kindOf n = some .local) (hc : Names X x c) (hex : X.ex = [])
    (hb : ∀ (W : WX) (pn : List (Addr × Obj)) (xe : Value → Shared → Prop), Takes (X.tr pn xe) W → PassesOwn (model X.prog X.w) X.A X.env xe → PSs (X.tr pn xe) body (tb W))
    (hsu : ∀ (a : Addr) (pn : List (Addr × Obj)), PSs (X.suite a pn) (b₀ :: suite) ts) :
    PS X (.Try body [.ExceptHandler (some (.Name x np)) (some n) (b₀ :: suite) pos'] [] [] pos) (tTryW X.K c i ts tb) :=
  ps_try_valW (tb := tb) (ts := fun _ _ => ts) hs hf hN hi hln hc takes0 hex (fun W pn xe tk po => hb W pn xe tk po) fun a _ pn => hsu a pn
end
end Hm

/-! F8: texts: a sign among signs, times, list of a text, join, count, walks over a text. -/
namespace Hm
open PySem PySem.Spec PyProof.Rows L2
/-- a text of some signs -/
abbrev T1 (c : Nat) : Str := ⟨#[c]⟩
def tS (l : List Nat) : Str := ⟨l.toArray⟩
theorem tS_cps (l : List Nat) : (tS l).cps.toList = l := rfl
theorem tS_len (l : List Nat) : (tS l).length = l.length := by simp [tS, PySem.Str.length]
theorem tS_of (z : Str) : tS z.cps.toList = z := rfl
theorem tS_inj {l m : List Nat} (h : tS l = tS m) : l = m := by
  have := congrArg (fun z : Str => z.cps.toList) h
  exact this
def cInS : R2 := fun x y H Q => ∃ (c : Nat) (z : Str), x = .str ⟨#[c]⟩ ∧ y = .str z ∧ Q (.bl (decide (c ∈ z.cps.toList))) H
def cNotInS : R2 := fun x y H Q => ∃ (c : Nat) (z : Str), x = .str ⟨#[c]⟩ ∧ y = .str z ∧ Q (.bl (!decide (c ∈ z.cps.toList))) H
/-- a thing of data in a tuple of data -/
def cInT (K : PySem.W.Frag) : R2 := fun x y H Q => ∃ d ds, Dp K H x d ∧ Dp K H y (.tuple ds) ∧ SeqAt.shaped d = true ∧ SeqAt.shaped (.list ds) = true ∧ Q (.bl (ds.any fun z => PyData.eqv z d)) H
def cNotInT (K : PySem.W.Frag) : R2 := fun x y H Q => ∃ d ds, Dp K H x d ∧ Dp K H y (.tuple ds) ∧ SeqAt.shaped d = true ∧ SeqAt.shaped (.list ds) = true ∧ Q (.bl (!ds.any fun z => PyData.eqv z d)) H
def bMulS : R2 := fun x y H Q => ∃ (z : Str) (n : Int), x = .str z ∧ y = .int n ∧ MulOk z n ∧ Q (.str (Txt.mul z n)) H
def kListS : List V → Hp → VK → Prop := fun xs H Q => ∃ z : Str, xs = [.str z] ∧ z.length ≤ 100000 ∧ ∀ l, H l = none → Q (.ref l) (upd H l (.lst (z.cps.toList.map fun c => V.str (T1 c))))
def rJoin (K : PySem.W.Frag) : V → List V → Hp → VK → Prop := fun x xs H Q => ∃ a p, ∃ ys : List Str, x = .str a ∧ xs = [.ref p] ∧ (SqL K H p (ys.map V.str) ∨ SqT K H p (ys.map V.str)) ∧
    (ys.map (·.length)).sum + ys.length * a.length ≤ 16777216 ∧ Q (.str (Txt.join a ys)) H
def rCountS : V → List V → Hp → VK → Prop := fun x xs H Q => ∃ a b, x = .str a ∧ xs = [.str b] ∧ Q (.int (Txt.count a b)) H
def kStrI : List V → Hp → VK → Prop := fun xs H Q => ∃ i, xs = [.int i] ∧ i.natAbs.log2 < 1920 ∧ Q (.str (toString i)) H
section
variable {X : Cx}
theorem o_inT (hu : X.A.units + 65 < cLine) : OpR X (compareOp .In) (cInT X.K) := by
  intro pins s σ H x y v u Q I rx ry h
  obtain ⟨d, ds, hd, he, sd, se, q⟩ := h
  obtain ⟨as, r1⟩ := Dp.reads I d x v hd rx
  obtain ⟨bs, r2⟩ := Dp.reads I (.tuple ds) y u he ry
  exact SeqAt.in_tuple_reads r2 r1 (SeqAt.canLay_of_shaped se) (SeqAt.canLay_of_shaped sd) (room_in_shaped sd hu) ⟨.bl _, H, I, rfl, q⟩
theorem o_notinT (hu : X.A.units + 65 < cLine) : OpR X (compareOp .NotIn) (cNotInT X.K) := by
  intro pins s σ H x y v u Q I rx ry h
  obtain ⟨d, ds, hd, he, sd, se, q⟩ := h
  obtain ⟨as, r1⟩ := Dp.reads I d x v hd rx
  obtain ⟨bs, r2⟩ := Dp.reads I (.tuple ds) y u he ry
  exact SeqAt.notIn_tuple_reads r2 r1 (SeqAt.canLay_of_shaped se) (SeqAt.canLay_of_shaped sd) (room_in_shaped sd hu) ⟨.bl _, H, I, rfl, q⟩
theorem o_inS : OpR X (compareOp .In) cInS := op_in_sign
theorem o_notinS : OpR X (compareOp .NotIn) cNotInS := op_notIn_sign
theorem o_mulS : OpR X (binaryOp .Mult) bMulS := by
  intro pins s σ H x y v u Q I rx ry h
  obtain ⟨z, n, rfl, rfl, ok, q⟩ := h
  obtain ⟨t, rfl⟩ := rx
  obtain ⟨t', rfl⟩ := ry
  exact PySem.SB.mul ok fun t' k => ⟨.str (Txt.mul z n), H, I.tok _, ⟨_, rfl⟩, q⟩
theorem k_listS (hc : X.calm = true) : CallR X (.type "list") kListS := by
  intro pins s σ H xs us Q I r h
  obtain ⟨z, rfl, few, q⟩ := h
  obtain ⟨u, rfl, rx⟩ := vals1 r
  obtain ⟨t, rfl⟩ := rx
  have hz : z.cps.size ≤ sizeLine := by
    have : z.cps.size = z.length := rfl
    rw [sizeLine_eq]; omega
  refine call_list_str (I.ok.hd hc) z t (fun h' tk acc' c' kp e ⟨sz, at_⟩ => ?_) hz
  have r' : Vals (z.cps.toList.map fun c => V.str (T1 c)) acc'.toList := by
    refine vals_of_at (by rw [List.length_map, Array.length_toList, Array.length_toList, sz]) fun j x u hx hu => ?_
    rw [Array.getElem?_toList] at hu
    obtain ⟨c, w, hc, rfl⟩ := at_ j u hu
    rw [List.getElem?_map, Array.getElem?_toList, hc] at hx
    cases hx
    exact ⟨_, rfl⟩
  exact ⟨.ref s.heap.objs.size, _, I.laid (t' := tk) kp (Nat.le_refl _) (show ObjOk X.prog X.w _ h' _ (.lst (z.cps.toList.map fun c => V.str (T1 c))) from ⟨by rw [List.length_map, Array.length_toList]; exact hz, acc'.toList, c', r', e⟩), rfl, q _ (I.hok.fresh (Nat.le_refl _))⟩
theorem k_strI : CallR X (.type "str") kStrI := call_str_int
end
section
variable {P : Program} {w : World} {K : PySem.W.Frag} {H : Hp} {Q : VK} {a b z : Str} {c : Nat} {n : Int} {l : Addr} {σ : L2.St}
theorem v_inS (k : Q (.bl (decide (c ∈ z.cps.toList))) H) : cInS (.str ⟨#[c]⟩) (.str z) H Q := ⟨c, z, rfl, rfl, k⟩
theorem v_ninS (k : Q (.bl (!decide (c ∈ z.cps.toList))) H) : cNotInS (.str ⟨#[c]⟩) (.str z) H Q := ⟨c, z, rfl, rfl, k⟩
theorem v_ltS (k : Q (.bl (decide (a.cps.toList < b.cps.toList))) H) : cLt K (.str a) (.str b) H Q := .inr (.inl ⟨a, b, rfl, rfl, k⟩)
theorem v_lenStr (h : a.length ≤ 100000) (k : Q (.int a.length) H) : kLen K [.str a] H Q := .inl ⟨_, _, rfl, ⟨by rw [sizeLine_eq]; omega, rfl⟩, k⟩
theorem v_listS (h : z.length ≤ 100000) (k : ∀ l, H l = none → Q (.ref l) (upd H l (.lst (z.cps.toList.map fun c => V.str (T1 c))))) : kListS [.str z] H Q := ⟨z, rfl, h, k⟩
theorem v_joinL {ys : List Str} (h : H l = some (.lst (ys.map V.str))) (n : (ys.map (·.length)).sum + ys.length * a.length ≤ 16777216) (k : Q (.str (Txt.join a ys)) H) : rJoin K (.str a) [.ref l] H Q := ⟨a, l, ys, rfl, rfl, .inl (SqL.of h), n, k⟩
theorem v_countS (k : Q (.int (Txt.count a b)) H) : rCountS (.str a) [.str b] H Q := ⟨a, b, rfl, rfl, k⟩
theorem v_slS {lo hi : Option Int} (h : z.length ≤ 100000) (k : Q (.str (cutS z lo hi)) H) : rSlS (.str z) lo hi H Q := ⟨z, rfl, by rw [sizeLine_eq]; omega, k⟩
theorem r_kbm_s {q : V → List V → Hp → VK → Prop} {tr : TA} (k : tr σ H fun xs H2 => q (.str a) xs H2 Q) : kBM K "str" q tr σ (.str a) H Q := ⟨rfl, k⟩
theorem mulOk_small (hz : z.length ≤ 1000) (h0 : 0 ≤ n) (h1 : n ≤ 1000) : MulOk z n := by
  refine ⟨?_, fun hn _ => ?_, fun hn _ => ?_⟩
  · rw [Bool.or_eq_false_iff]
    exact ⟨decide_eq_false (by omega), decide_eq_false (by omega)⟩
  · have : (1000 : Int) ≤ (2 ^ 63 - 1) / n := by
      refine Int.le_ediv_of_mul_le (by omega) ?_
      omega
    omega
  · unfold PySem.Builtin.Str.tooLong
    rw [decide_eq_false_iff_not]
    have := Nat.mul_le_mul hz (show n.toNat ≤ 1000 by omega)
    have := sizeLine_eq
    omega
theorem v_mulS (m : MulOk z n) (k : Q (.str (Txt.mul z n)) H) : bMulS (.str z) (.int n) H Q := ⟨z, n, rfl, rfl, m, k⟩
/-- a sign of a text -/
theorem v_ixS {i : Int} (h : atI z.cps.toList i = some c) (few : z.length ≤ 100000) (k : Q (.str (T1 c)) H) : bIx P w K (.str z) (.int i) H Q := .inr (.inr (.inl ⟨z, i, c, rfl, rfl, by rw [sizeLine_eq]; omega, h, k⟩))
theorem r_iStr {te : TE} {R : It → Hp → Prop} (k : te σ H fun v H1 => ∃ x, v = .str x ∧ R (Its x) H1) : iStr te σ H R := k
/-- a walk over a text -/
theorem for_str {g : TG} {tb : TS} {D : Ends} (Pv : Nat → L2.St → Hp → Prop) (h0 : Pv 0 σ H)
    (hs : ∀ i c σ H, z.cps.toList[i]? = some c → Pv i σ H → g (.str (T1 c)) σ H fun σ2 H2 => tb { D with nx := Pv (i + 1), ct := Pv (i + 1), bk := D.nx } σ2 H2) (hd : ∀ σ H, Pv z.cps.toList.length σ H → D.nx σ H) : kFor (Its z) g tb D σ H := by
  have sz : z.cps.toList.length = z.cps.size := Array.length_toList
  refine ⟨fun i m σ H => m = z.cps.size - i ∧ i ≤ z.cps.size ∧ Pv i σ H, ⟨_, rfl, Nat.zero_le _, h0⟩, ?_⟩
  rintro i m σ H ⟨rfl, hi, p⟩
  by_cases lt : i < z.cps.size
  · refine .inr ⟨lt, Pv (i + 1), fun σ' H' p' => ⟨z.cps.size - (i + 1), by omega, rfl, lt, p'⟩, fun x H' y => ?_⟩
    obtain ⟨rfl, c, hc, rfl⟩ := y
    exact hs i c σ H' (by rw [Array.getElem?_toList]; exact hc) p
  · have e : i = z.cps.size := by omega
    subst e
    exact .inl ⟨Nat.le_refl _, hd σ H (by rw [sz]; exact p)⟩
end
end Hm

/-! F9: enumerate(text). -/
namespace Hm
open PySem PySem.Spec PyProof.Rows L2
/-- the text's signs, each in a new pair -/
def Itf (x : Str) : It :=
  ⟨fun i _ => i < x.cps.size, fun i H v H' => ∃ T c, v = .ref T ∧ H T = none ∧ H' = upd H T (.tup [.int (i : Nat), .str (T1 c)]) ∧ x.cps[i]? = some c, fun i _ => i = x.cps.size⟩
theorem turn_enumS {P : Program} {w : World} {K : PySem.W.Frag} {elts : List Expr} {kk : Nat} {tpos : Pos} (x : Str) (t : Tok) (e it : Addr) :
    Turn P w K (.Tuple elts kk tpos) (Itf x) [e, it] e (fun i h => (∃ old, IsEnum h e it ((i : Nat) : Int) old) ∧ h.IsStrIter it (strIterType x) x t i ∧ e ≠ it) where
  mem := by simp
  obj := fun i h st b hb => by
    obtain ⟨⟨old, he⟩, ⟨o, ho, hc, hd⟩, _⟩ := st
    have e' : b = e ∨ b = it := by simpa using hb
    rcases e' with z | z
    · rw [z]; exact ⟨_, he, fun v q => nomatch q⟩
    · rw [z]; exact ⟨o, ho, fun v q => by rw [hd] at q; cases q⟩
  keep := fun i h h' st k => let ⟨⟨old, he⟩, ⟨o, ho, r⟩, hne⟩ := st; ⟨⟨old, k e (by simp) _ he⟩, ⟨o, k it (by simp) o ho, r⟩, hne⟩
  item := by
    intro X hP hw hK hc i pins s σ H E I hf st hg
    subst hP hw hK
    obtain ⟨⟨old, he⟩, hit, hne⟩ := st
    have D : Draws X.prog X.w X.A.in1 it [it] x.cps.size (fun i v => ∃ c u, x.cps[i]? = some c ∧ v = .str ⟨#[c]⟩ u) (fun i h => h.IsStrIter it (strIterType x) x t i) := by
      unfold strIterType
      split
      · exact Draws.strAscii (A := X.A.in1) (I.ok.hd hc) it x t
      · exact Draws.strWide (A := X.A.in1) (I.ok.hd hc) it x t
    have hel : e < s.heap.objs.size := Heap.lt_size he
    have hil : it < s.heap.objs.size := by obtain ⟨_, q, _⟩ := hit; exact Heap.lt_size q
    refine wpAny_pyNext_enum_itemD D he hit hg hne (by simpa using hne) fun u h' tk hP ho hit' hT hsz hk => ?_
    obtain ⟨c, tu, hcx, rfl⟩ := hP
    refine ⟨_, rfl, wpAny_letOwnedTupleGo_enum (s := { s with heap := h', toks := tk + 1 }) ho fun h'' he' sb => ?_⟩
    have hT2 : h''.get? s.heap.objs.size = some { cls := .type "tuple", data := .seq #[.int i tk, .str ⟨#[c]⟩ tu] } := (sb.2 _ (Nat.ne_of_gt hel)).trans hT
    have new : ObjOk X.prog X.w (upd H s.heap.objs.size (.tup [.int (i : Nat), .str (T1 c)])) h'' s.heap.objs.size (.tup [.int (i : Nat), .str (T1 c)]) :=
      ⟨by show 2 ≤ sizeLine; decide, [.int i tk, .str ⟨#[c]⟩ tu], .cons ⟨_, rfl⟩ (.cons ⟨_, rfl⟩ .nil), ⟨_, hT2, rfl, _, rfl⟩⟩
    have I1 : Inv X pins σ (upd H s.heap.objs.size (.tup [.int (i : Nat), .str (T1 c)])) { s with heap := h'', toks := tk + 1 } :=
      I.turnedNew (ch := [e, it]) (fun b ob hb q => (sb.2 b (fun z => hb (by simp [z]))).trans (hk b ob (fun z => hb (by simp [z])) (fun z => hb (by simp [z])) q)) hf (Nat.le_refl _) new
    refine ⟨.ref s.heap.objs.size, _, I1, rfl, ⟨_, c, rfl, I.hok.fresh (Nat.le_refl _), rfl, hcx⟩, ⟨⟨.str ⟨#[c]⟩ tu, ?_⟩, D.frame _ _ _ hit' fun b hb o q => (sb.2 b (fun z => hne (by
      have hb' : b = it := by simpa using hb
      rw [← z, hb']))).trans q, hne⟩, fun b hb => ?_⟩
    · have e1 : ((i + 1 : Nat) : Int) = (i : Int) + 1 := by omega
      rw [e1]; exact he'
    · have hb' : b < s.heap.objs.size := by
        have e' : b = e ∨ b = it := by simpa using hb
        rcases e' with z | z
        · rw [z]; exact hel
        · rw [z]; exact hil
      rw [upd_ne (Nat.ne_of_lt hb')]
      exact (hf b hb).1
  done := by
    intro X hP hw hK hc i pins s σ H E I hf st hg
    subst hP hw hK
    obtain ⟨⟨old, he⟩, hit, hne⟩ := st
    obtain ⟨f0, f1, f2, f3, f4, f5⟩ := hf it (by simp)
    have D : Draws X.prog X.w X.A.in1 it [it] x.cps.size (fun i v => ∃ c u, x.cps[i]? = some c ∧ v = .str ⟨#[c]⟩ u) (fun i h => h.IsStrIter it (strIterType x) x t i ) := by
      unfold strIterType
      split
      · exact Draws.strAscii (A := X.A.in1) (I.ok.hd hc) it x t
      · exact Draws.strWide (A := X.A.in1) (I.ok.hd hc) it x t
    have hg : i = x.cps.size := hg
    subst hg
    exact wpAny_pyNext_enum_endD D he hit fun h' eb => ⟨rfl, I.turned (t' := s.toks) (fun b o hb q => eb b o hb q) f0 f1 f3 f4 f5⟩
  self := fun A i s Q E st h => let ⟨⟨_, he⟩, _⟩ := st; wpAny_pyIter_enum he h
def iEnumS (ta : TA) : TI := fun σ H R => ta σ H fun vs H1 => ∃ x, vs = [.str x] ∧ R (Itf x) H1
theorem pi_enumS {X : Cx} {e : Expr} {ta : TA} {p pos tpos : Pos} {elts : List Expr} {kk : Nat} (hg : Gl X "enumerate") (hm : X.mg "enumerate" = none) (ha : PA X [e] ta) (hs : starEach [e] X.env = [(false, eval e X.env)] := by rfl) :
    PI X (.Tuple elts kk tpos) (.Call (.Name "enumerate" p) [e] [] pos) (iEnumS ta) := by
  refine ⟨fun pins s σ H R I h => ?_⟩
  refine Call_ (ld_blt I hg hm boot_enumerate (PyProof.Rows.callWith_type1 (thn (ha.run pos pins s σ H _ I h) fun us s1 ⟨vs, H1, I1, r1, q1⟩ => ?_) hs rfl))
  obtain ⟨x, ex, q⟩ := q1
  subst ex
  cases r1 with
  | cons r rr =>
    cases rr
    obtain ⟨t, rfl⟩ := r
    refine call_enumerate_str fun h' he hit hsz hk => wpAny_pyIter_enum he ?_
    have I2 : Inv X pins σ H1 { s1 with heap := h' } := I1.kept (t' := s1.toks) hk
    refine ⟨s1.heap.objs.size + 1, [s1.heap.objs.size + 1, s1.heap.objs.size], _, _, H1, rfl, I2, turn_enumS x t (s1.heap.objs.size + 1) s1.heap.objs.size, ⟨⟨.none, he⟩, hit, Nat.succ_ne_self _⟩, fun b hb => ?_, q⟩
    have e' : b = s1.heap.objs.size + 1 ∨ b = s1.heap.objs.size := by simpa using hb
    have hle : s1.heap.objs.size ≤ b := by
      rcases e' with z | z
      · rw [z]; exact Nat.le_add_right _ _
      · rw [z]; exact Nat.le_refl _
    exact I1.fpOk hle (I1.hok.fresh hle)
theorem walk_enumS {z : Str} : Walk (Itf z) z.cps.size (fun _ => True) (YPair (fun i => some (.int (i : Nat))) (fun i => z.cps.toList[i]?.map fun c => .str (T1 c))) :=
  ⟨fun _ _ hi _ => hi, fun _ _ => rfl, fun i H v H' _ _ y => by
    obtain ⟨T, c, h1, h2, h3, h4⟩ := y
    exact ⟨T, _, _, h1, h2, h3, rfl, by
      show z.cps.toList[i]?.map _ = _
      rw [Array.getElem?_toList, h4]; rfl⟩⟩
section
variable {K : PySem.W.Frag} {H : Hp} {σ : L2.St} {l : Addr} {xs : List V} {z : Str} {ta : TA} {R : It → Hp → Prop}
theorem r_iEnum (k : ta σ H fun vs H1 => ∃ a xs, vs = [.ref a] ∧ SqL K H1 a xs ∧ R (Ite K a) H1) : iEnum K ta σ H R := k
theorem r_iEnumS (k : ta σ H fun vs H1 => ∃ x, vs = [.str x] ∧ R (Itf x) H1) : iEnumS ta σ H R := k
theorem r_enumL (h : H l = some (.lst xs)) (k : R (Ite K l) H) : ∃ a xs, [V.ref l] = [.ref a] ∧ SqL K H a xs ∧ R (Ite K a) H := ⟨l, xs, rfl, SqL.of h, k⟩
theorem r_enumS (k : R (Itf z) H) : ∃ x, [V.str z] = [.str x] ∧ R (Itf x) H := ⟨z, rfl, k⟩
end
end Hm

namespace Hm
open PySem L2
/-! F3m: the reading's steps. kaf_suf: one step; kaf_pre: what stands at an address; tlg_ne: two addresses differ. -/
local macro_rules | `(tactic| tlg_ne) => `(tactic| first
  | with_reducible assumption
  | with_reducible exact Ne.symm (by assumption)
  | (refine' ne_old (by assumption) ?a; (case a => (kaf_pre; done)))
  | (refine' ne_new (by assumption) ?a; (case a => (kaf_pre; done)))
  | fail "tlg_ne")
local macro_rules | `(tactic| kaf_pre) => `(tactic| first
  | with_reducible assumption
  | ((with_reducible refine' upd_at ?a); (case a => rfl))
  | ((first
      | (with_reducible refine' get_new (by assumption) ?b)
      | ((with_reducible refine' get_set ?a ?b); (case a => (tlg_ne; done)))
      | ((with_reducible refine' Keep.get (by assumption) ?a ?b); (case a => (first | assumption | (intro z; exact z.elim) | fail "kaf_pre")))
      | fail "kaf_pre"); (case b => (kaf_pre; done)))
  | ((fail_if_success (with_reducible refine' is_upd ?_)); assumption)
  | ((with_reducible refine' get_setK ?a ?b ?e); (case a => (kaf_pre; done)); (case b => (kaf_pre; done)); (case e => (intro z; cases z; done)))
  | fail "kaf_pre")
local macro_rules | `(tactic| isplit) => `(tactic| first
  | assumption
  | ((with_reducible refine' seq_new (by assumption) ?a); (case a => (isplit; done)))
  | ((with_reducible refine' seq_keep (by assumption) ?a); (case a => (isplit; done))))
local macro_rules | `(tactic| kaf_suf) => `(tactic| first
  | with_reducible refine r_seq ?_
  | with_reducible refine r_asg ?_
  | ((with_reducible refine' r_var ?a ?_); (case a => rfl))
  | with_reducible refine r_c ?_
  | with_reducible refine r_gname ?_
  | with_reducible refine r_op ?_
  | with_reducible refine r_cons ?_
  | with_reducible refine r_nil ?_
  | with_reducible refine r_cb ?_
  | with_reducible refine r_call ?_
  | with_reducible refine r_meth ?_
  | with_reducible refine r_fld ?_
  | with_reducible refine r_if ?_
  | with_reducible refine r_test ?_
  | with_reducible refine r_kB ?_
  | with_reducible refine r_ite_tt ?_
  | with_reducible refine r_ite_ff ?_
  | with_reducible refine r_ite_nt ?_
  | with_reducible refine r_ite_nf ?_
  | ((with_reducible refine' r_iteT' ?a ?_); (case a => first | assumption | rfl | omega))
  | ((with_reducible refine' r_iteF' ?a ?_); (case a => first | assumption | omega))
  | ((with_reducible refine' r_iteNT' ?a ?_); (case a => first | assumption | omega))
  | ((with_reducible refine' r_iteNF' ?a ?_); (case a => first | assumption | rfl | omega))
  | with_reducible refine r_next ?_
  | with_reducible refine r_nx ?_
  | with_reducible refine r_rt ?_
  | with_reducible refine r_bk ?_
  | with_reducible refine r_ct ?_
  | with_reducible refine r_drop ?_
  | with_reducible refine r_ret ?_
  | with_reducible refine v_add ?_
  | with_reducible refine v_sub ?_
  | with_reducible refine v_eq ?_
  | with_reducible refine v_ne ?_
  | with_reducible refine v_lt ?_
  | with_reducible refine v_le ?_
  | with_reducible refine v_gt ?_
  | with_reducible refine v_ge ?_
  | ((with_reducible refine' v_mod ?a ?_); (case a => first | assumption | decide | omega))
  | ((with_reducible refine' v_mul ?a ?_); (case a => first | assumption | decide | omega))
  | ((with_reducible refine' v_div ?a ?_); (case a => first | assumption | decide | omega))
  | ((with_reducible refine' v_pow ?a ?_); (case a => exact ⟨by decide, by decide, by decide⟩))
  | ((with_reducible refine' v_ixL ?a ?b ?_); (case a => (kaf_pre; done)); (case b => (first | assumption | rfl)))
  | ((with_reducible refine' v_ixT ?a ?b ?_); (case a => (kaf_pre; done)); (case b => (first | assumption | rfl)))
  | ((with_reducible refine' v_lenL ?a ?_); (case a => (kaf_pre; done)))
  | ((with_reducible refine' v_lenT ?a ?_); (case a => (kaf_pre; done)))
  | ((with_reducible refine' v_lenK ?a ?_); (case a => (isplit; done)))
  | ((with_reducible refine' v_ixK ?a ?b ?_); (case a => (isplit; done)); (case b => (first | assumption | rfl)))
  | ((with_reducible refine' v_append ?a ?b ?_); (case a => (kaf_pre; done)); (case b => first | assumption | exact few1 (by simp; omega)))
  | ((with_reducible refine' r_krng1 ?a ?_); (case a => first | assumption | decide | omega))
  | with_reducible refine v_int ?_
  | with_reducible refine v_intB ?_
  | with_reducible refine v_max ?_
  | with_reducible refine v_min ?_
  | with_reducible refine r_and ?_
  | with_reducible refine r_or ?_
  | with_reducible refine r_not ?_
  | with_reducible refine r_tup ?_
  | with_reducible refine r_lst ?_
  | ((with_reducible refine' r_ktup ?a ?_); (case a => (simp; done)))
  | ((with_reducible refine' r_klst ?a ?_); (case a => (simp; done)))
  | with_reducible refine r_bm ?_
  | with_reducible refine r_bm0 ?_
  | ((with_reducible refine' r_kbm_l ?a ?_); (case a => (kaf_pre; done)))
  | with_reducible refine r_gsub ?_
  | ((with_reducible refine' v_setL ?a ?b ?_); (case a => (kaf_pre; done)); (case b => first | assumption | rfl))
  | with_reducible refine r_sfld ?_
  | with_reducible refine r_make ?_
  | with_reducible refine r_for ?_
  | with_reducible refine r_rng1 ?_
  | with_reducible refine r_iany ?_
  | ((with_reducible refine' r_kiterL ?a ?_); (case a => (kaf_pre; done)))
  | ((with_reducible refine' r_kiterT ?a ?_); (case a => (kaf_pre; done)))
  | with_reducible refine r_lc ?_
  | with_reducible refine r_yes ?_
  | with_reducible refine r_chain ?_
  | with_reducible refine r_andV ?_
  | with_reducible refine r_orV ?_
  | with_reducible refine r_notV ?_
  | with_reducible refine r_tru ?_
  | with_reducible refine r_tru_bl ?_
  | with_reducible refine r_un ?_
  | with_reducible refine r_rU ?_
  | with_reducible refine r_sl ?_
  | with_reducible refine r_nopart ?_
  | with_reducible refine r_part ?_
  | with_reducible refine r_kI ?_
  | with_reducible refine r_rev ?_
  | with_reducible refine r_lstRg1 ?_
  | with_reducible refine r_krg ?_
  | with_reducible refine v_isN ?_
  | with_reducible refine v_notN ?_
  | with_reducible refine v_isB ?_
  | with_reducible refine v_notB ?_
  | with_reducible refine v_eqS ?_
  | with_reducible refine v_neS ?_
  | ((with_reducible refine' v_isiI ?a ?_); (case a => first | with_reducible exact kit_int_int | with_reducible exact kit_int_bool | with_reducible exact kit_int_list | with_reducible exact kit_int_tuple | with_reducible exact kit_int_str))
  | ((with_reducible refine' v_isiB ?a ?_); (case a => first | with_reducible exact kit_bool_int | with_reducible exact kit_bool_bool | with_reducible exact kit_bool_list | with_reducible exact kit_bool_tuple | with_reducible exact kit_bool_str))
  | ((with_reducible refine' v_isiS ?a ?_); (case a => first | with_reducible exact kit_str_int | with_reducible exact kit_str_bool | with_reducible exact kit_str_list | with_reducible exact kit_str_tuple | with_reducible exact kit_str_str))
  | ((with_reducible refine' v_isiL ?a ?b ?_); (case a => (kaf_pre; done)); (case b => first | with_reducible exact kit_list_int | with_reducible exact kit_list_bool | with_reducible exact kit_list_list | with_reducible exact kit_list_tuple | with_reducible exact kit_list_str))
  | ((with_reducible refine' v_isiT ?a ?b ?_); (case a => (kaf_pre; done)); (case b => first | with_reducible exact kit_tuple_int | with_reducible exact kit_tuple_bool | with_reducible exact kit_tuple_list | with_reducible exact kit_tuple_tuple | with_reducible exact kit_tuple_str))
  | with_reducible refine r_brk ?_
  | with_reducible refine r_cont ?_
  | with_reducible refine r_par ?_
  | with_reducible refine r_par2 ?_
  | with_reducible refine v_abs ?_
  | ((with_reducible refine' v_listL ?a ?_); (case a => (kaf_pre; done)))
  | ((with_reducible refine' v_listT ?a ?_); (case a => (kaf_pre; done)))
  | ((with_reducible refine' v_set ?a ?b ?_); (case a => (kaf_pre; done)); (case b => first | assumption | omega | (simp; omega)))
  | ((with_reducible refine' v_sortedS ?a ?_); (case a => (kaf_pre; done)))
  | ((with_reducible refine' v_sortedL ?a ?_); (case a => (kaf_pre; done)))
  | ((with_reducible refine' v_tupleL ?a ?_); (case a => (kaf_pre; done)))
  | ((with_reducible refine' v_addL ?a ?b ?e ?_); (case a => (kaf_pre; done)); (case b => (kaf_pre; done)); (case e => first | assumption | exact few2 (by simp; omega)))
  | ((with_reducible refine' v_addT ?a ?b ?e ?_); (case a => (kaf_pre; done)); (case b => (kaf_pre; done)); (case e => first | assumption | exact few2 (by simp; omega))))

local macro_rules | `(tactic| kaf_suf) => `(tactic| first
  | with_reducible refine r_gcons ?_
  | with_reducible refine r_gnil ?_
  | ((with_reducible refine' r_seqT ?a ?b ?_); (case a => (kaf_pre; done)); (case b => rfl))
  | ((with_reducible refine' r_seqL ?a ?b ?_); (case a => (kaf_pre; done)); (case b => rfl)))

local macro_rules | `(tactic| kaf_suf) => `(tactic| first
  | with_reducible refine v_inS ?_
  | with_reducible refine v_ninS ?_
  | with_reducible refine v_ltS ?_
  | ((with_reducible refine' v_addS ?a ?_); (case a => first | assumption | omega))
  | ((with_reducible refine' v_lenStr ?a ?_); (case a => first | assumption | omega))
  | ((with_reducible refine' v_listS ?a ?_); (case a => first | assumption | omega))
  | ((with_reducible refine' v_ixS ?a ?b ?_); (case a => (first | assumption | rfl)); (case b => first | assumption | omega))
  | with_reducible refine v_countS ?_
  | with_reducible refine r_kbm_s ?_)

def top (i : Nat) : Stmt := PySem.Challenge.pw_hotmoves_k72_floors.main.body.getD i (.Pass ⟨0, 0, 0, 0⟩)
abbrev s_is_text_of : Stmt := top 7
abbrev s_is_floor : Stmt := top 8
abbrev s_Floors_init : Stmt := inClass (top 9) 0
abbrev s_Floors_behind : Stmt := inClass (top 9) 1
abbrev s_Floors_game : Stmt := inClass (top 9) 2
abbrev s_floor_game : Stmt := top 10
abbrev s_Book_init : Stmt := inClass (top 12) 0
abbrev s_Book_need : Stmt := inClass (top 12) 1
abbrev s_Book_game : Stmt := inClass (top 12) 2
abbrev s_Book_lefts : Stmt := inClass (top 12) 3
abbrev s_Book_rights : Stmt := inClass (top 12) 4
abbrev s_Book_depth : Stmt := inClass (top 12) 5
abbrev s_Book_many : Stmt := inClass (top 12) 6
abbrev s_law_deck : Stmt := top 14
abbrev s_law_draw : Stmt := top 15
abbrev s_law_floor : Stmt := top 16
abbrev s_law_behind : Stmt := top 17
abbrev s_law_right : Stmt := top 18
abbrev s_law : Stmt := top 19
structure Cn where
  P : Program
  w : World
  K : PySem.W.Frag
  cGameError : Addr
  cNoGame : Addr
  cNoBoard : Addr
  cFloors : Addr
  cBook : Addr
structure Txt (c : Cn) (mg : Str → Option Value) : Prop where
  n_bool : mg "bool" = none
  n_enumerate : mg "enumerate" = none
  n_int : mg "int" = none
  n_isinstance : mg "isinstance" = none
  n_len : mg "len" = none
  n_list : mg "list" = none
  n_max : mg "max" = none
  n_min : mg "min" = none
  n_range : mg "range" = none
  n_set : mg "set" = none
  n_sorted : mg "sorted" = none
  n_str : mg "str" = none
  n_tuple : mg "tuple" = none
  g_GameError : mg "GameError" = some (.ref c.cGameError)
  g_NoGame : mg "NoGame" = some (.ref c.cNoGame)
  g_NoBoard : mg "NoBoard" = some (.ref c.cNoBoard)
  g_Floors : mg "Floors" = some (.ref c.cFloors)
  g_Book : mg "Book" = some (.ref c.cBook)
  g_MOST_ROWS : ∃ t, mg "MOST_ROWS" = some (.int 4 t)
  g_MOST_SIDE : ∃ t, mg "MOST_SIDE" = some (.int 6 t)
  cl_Floors : Cls c.K c.cFloors
  na_Floors_book : NoAttr c.K c.cFloors "book"
  na_Floors_games : NoAttr c.K c.cFloors "games"
  cl_Book : Cls c.K c.cBook
  na_Book_depths : NoAttr c.K c.cBook "depths"
  na_Book_moves : NoAttr c.K c.cBook "moves"
  na_Book_numbers : NoAttr c.K c.cBook "numbers"
  F_is_text_of : ∃ (f : Addr) (fd : FuncData), Fun c.K "is_text_of" "is_text_of" s_is_text_of f fd ∧ mg "is_text_of" = some (.ref f) ∧ Binds c.K fd ["thing", "signs"] []
  F_is_floor : ∃ (f : Addr) (fd : FuncData), Fun c.K "is_floor" "is_floor" s_is_floor f fd ∧ mg "is_floor" = some (.ref f) ∧ Binds c.K fd ["thing"] []
  F_Floors_init : ∃ (f : Addr) (fd : FuncData), Fun c.K "__init__" "Floors.__init__" s_Floors_init f fd ∧ Mk c.K c.cFloors f ∧ Binds c.K fd ["self", "book"] []
  F_Floors_behind : ∃ (f : Addr) (fd : FuncData), Fun c.K "behind" "Floors.behind" s_Floors_behind f fd ∧ Meth c.K c.cFloors "behind" f ∧ Binds c.K fd ["self", "free", "down", "across"] []
  F_Floors_game : ∃ (f : Addr) (fd : FuncData), Fun c.K "game" "Floors.game" s_Floors_game f fd ∧ Meth c.K c.cFloors "game" f ∧ Binds c.K fd ["self", "free"] []
  F_floor_game : ∃ (f : Addr) (fd : FuncData), Fun c.K "floor_game" "floor_game" s_floor_game f fd ∧ mg "floor_game" = some (.ref f) ∧ Binds c.K fd ["book", "floor"] []
  F_Book_init : ∃ (f : Addr) (fd : FuncData), Fun c.K "__init__" "Book.__init__" s_Book_init f fd ∧ Mk c.K c.cBook f ∧ Binds c.K fd ["self"] []
  F_Book_need : ∃ (f : Addr) (fd : FuncData), Fun c.K "need" "Book.need" s_Book_need f fd ∧ Meth c.K c.cBook "need" f ∧ Binds c.K fd ["self", "g"] []
  F_Book_game : ∃ (f : Addr) (fd : FuncData), Fun c.K "game" "Book.game" s_Book_game f fd ∧ Meth c.K c.cBook "game" f ∧ Binds c.K fd ["self", "lefts", "rights"] []
  F_Book_lefts : ∃ (f : Addr) (fd : FuncData), Fun c.K "lefts" "Book.lefts" s_Book_lefts f fd ∧ Meth c.K c.cBook "lefts" f ∧ Binds c.K fd ["self", "g"] []
  F_Book_rights : ∃ (f : Addr) (fd : FuncData), Fun c.K "rights" "Book.rights" s_Book_rights f fd ∧ Meth c.K c.cBook "rights" f ∧ Binds c.K fd ["self", "g"] []
  F_Book_depth : ∃ (f : Addr) (fd : FuncData), Fun c.K "depth" "Book.depth" s_Book_depth f fd ∧ Meth c.K c.cBook "depth" f ∧ Binds c.K fd ["self", "g"] []
  F_Book_many : ∃ (f : Addr) (fd : FuncData), Fun c.K "many" "Book.many" s_Book_many f fd ∧ Meth c.K c.cBook "many" f ∧ Binds c.K fd ["self"] []
  F_law_deck : ∃ (f : Addr) (fd : FuncData), Fun c.K "_law_deck" "_law_deck" s_law_deck f fd ∧ mg "_law_deck" = some (.ref f) ∧ Binds c.K fd ["script"] []
  F_law_draw : ∃ (f : Addr) (fd : FuncData), Fun c.K "_law_draw" "_law_draw" s_law_draw f fd ∧ mg "_law_draw" = some (.ref f) ∧ Binds c.K fd ["deck", "many"] []
  F_law_floor : ∃ (f : Addr) (fd : FuncData), Fun c.K "_law_floor" "_law_floor" s_law_floor f fd ∧ mg "_law_floor" = some (.ref f) ∧ Binds c.K fd ["deck"] []
  F_law_behind : ∃ (f : Addr) (fd : FuncData), Fun c.K "_law_behind" "_law_behind" s_law_behind f fd ∧ mg "_law_behind" = some (.ref f) ∧ Binds c.K fd ["floor", "down", "across"] []
  F_law_right : ∃ (f : Addr) (fd : FuncData), Fun c.K "_law_right" "_law_right" s_law_right f fd ∧ mg "_law_right" = some (.ref f) ∧ Binds c.K fd ["book", "floor"] []
/-! the deck: what is drawn from it is any number -/
abbrev N_law_deck : List Str := ["script", "pools", "k", "cell"]
theorem sc_law_deck : FnScope N_law_deck ["script"] (defScope s_law_deck) := ⟨rfl, rfl, rfl, by decide +kernel, rfl, by decide +kernel, by decide +kernel⟩
def t_law_deck (c : Cn) : TS :=
  (tSeq (tAsg (tLst tNil) (gName 1))
  (tSeq (tFor (iRng1 (tCons (tCB (kMax c.K) (tCons (tC (.int 1)) (tCons (tCB (kMin c.K) (tCons (tC (.int 63)) (tCons (tCB (kLen c.K) (tCons (tVar 0) tNil)) tNil))) tNil))) tNil)) (gName 2)
  (tSeq (tAsg (tC (.int 0)) (gName 3))
  (C8.tCut (tIfS (tTest (tOp (cLt c.K) (tVar 2) (tCB (kLen c.K) (tCons (tVar 0) tNil))))
  (tAsg (tOp (bIx c.P c.w c.K) (tVar 0) (tVar 2)) (gName 3))
  tNext)
  (tDrop (tBM c.K "list" rAppend (tVar 1) (tCons (tLst (tCons (tVar 3) (tCons (tCB kInt (tCons (tOp cGe (tVar 3) (tOp bPow (tC (.int 10)) (tC (.int 18)))) tNil)) (tCons (tOp bMul (tC (.int 31)) (tVar 2)) tNil)))) tNil))))))
  (tRet (tLst (tCons (tVar 1) (tCons (tC (.int 0)) tNil))))))
abbrev N_law_draw : List Str := ["deck", "many", "pool", "found", "number"]
theorem sc_law_draw : FnScope N_law_draw ["deck", "many"] (defScope s_law_draw) := ⟨rfl, rfl, rfl, by decide +kernel, rfl, by decide +kernel, by decide +kernel⟩
def t_law_draw (c : Cn) : TS :=
  (tSeq (tAsg (tOp (bIx c.P c.w c.K) (tOp (bIx c.P c.w c.K) (tVar 0) (tC (.int 0))) (tOp bMod (tOp (bIx c.P c.w c.K) (tVar 0) (tC (.int 1))) (tCB (kLen c.K) (tCons (tOp (bIx c.P c.w c.K) (tVar 0) (tC (.int 0))) tNil)))) (gName 2))
  (tSeq (tAsg (tOp (bAdd c.K) (tOp (bIx c.P c.w c.K) (tVar 0) (tC (.int 1))) (tC (.int 1))) (gSub (tVar 0) (tC (.int 1)) (bSet c.P c.w)))
  (tSeq (tIfS (tAnd (tTest (tOp (cEq c.K) (tOp (bIx c.P c.w c.K) (tVar 2) (tC (.int 1))) (tC (.int 1)))) (tTest (tOp cGt (tOp (bIx c.P c.w c.K) (tVar 2) (tC (.int 0))) (tC (.int 0)))))
  (tSeq (tAsg (tOp bMod (tOp (bIx c.P c.w c.K) (tVar 2) (tC (.int 0))) (tVar 1)) (gName 3))
  (tSeq (tAsg (tOp bDiv (tOp (bIx c.P c.w c.K) (tVar 2) (tC (.int 0))) (tVar 1)) (gSub (tVar 2) (tC (.int 0)) (bSet c.P c.w)))
  (tRet (tVar 3))))
  tNext)
  (tSeq (tAsg (tOp (bAdd c.K) (tOp (bIx c.P c.w c.K) (tVar 2) (tC (.int 2))) (tC (.int 1))) (gSub (tVar 2) (tC (.int 2)) (bSet c.P c.w)))
  (tSeq (tAsg (tOp bMod (tOp (bAdd c.K) (tOp bMod (tOp (bIx c.P c.w c.K) (tVar 2) (tC (.int 0))) (tC (.int 99999999977))) (tOp bMul (tC (.int 700001)) (tOp (bIx c.P c.w c.K) (tVar 2) (tC (.int 2))))) (tC (.int 99999999947))) (gName 4))
  (tSeq (tAsg (tOp bMod (tOp bMul (tVar 4) (tVar 4)) (tC (.int 99999999821))) (gName 4))
  (tSeq (tAsg (tOp bMod (tOp bMul (tVar 4) (tOp (bAdd c.K) (tVar 4) (tC (.int 19)))) (tC (.int 9999999967))) (gName 4))
  (tRet (tOp bMod (tOp bDiv (tVar 4) (tC (.int 13))) (tVar 1))))))))))
structure DeckAt (H : Hp) (d : Addr) (M : Addr → Prop) : Prop where
  ex : ∃ (pl : Addr) (ps : List Addr) (i : Int), H d = some (.lst [.ref pl, .int i]) ∧ 0 ≤ i ∧ H pl = some (.lst (ps.map V.ref)) ∧ ps ≠ [] ∧ d ≠ pl ∧ M d ∧ M pl ∧
    (∀ q ∈ ps, M q ∧ q ≠ d ∧ q ≠ pl ∧ ∃ a b k, H q = some (.lst [.int a, .int b, .int k])) ∧ ∀ x, M x → x = d ∨ x = pl ∨ x ∈ ps
theorem keep_noneM {M : Addr → Prop} {H H' : Hp} {p : Addr} (k : Keep M H H') (n : ¬ M p) (h : H' p = none) : H p = none := by
  cases e : H p with
  | none => rfl
  | some o => rw [k p o n e] at h; cases h
theorem DeckAt.dom {H : Hp} {d : Addr} {M : Addr → Prop} (D : DeckAt H d M) {x : Addr} (h : M x) : H x ≠ none := by
  obtain ⟨pl, ps, i, h1, _, h2, _, _, _, _, h3, h4⟩ := D.ex
  rcases h4 x h with rfl | rfl | hx
  · rw [h1]; simp
  · rw [h2]; simp
  · obtain ⟨_, _, _, a, b, k, e⟩ := h3 x hx
    rw [e]; simp
theorem DeckAt.new {H : Hp} {d : Addr} {M : Addr → Prop} (D : DeckAt H d M) {x : Addr} (h : H x = none) : ¬ M x := fun z => D.dom z h
theorem DeckAt.keep {H H' : Hp} {d : Addr} {M N : Addr → Prop} (D : DeckAt H d M) (k : Keep N H H') (n : ∀ x, M x → ¬ N x) : DeckAt H' d M := by
  obtain ⟨pl, ps, i, h1, h0, h2, hp, ne, m1, m2, h3, h4⟩ := D.ex
  refine ⟨pl, ps, i, k _ _ (n _ m1) h1, h0, k _ _ (n _ m2) h2, hp, ne, m1, m2, fun q hq => ?_, h4⟩
  obtain ⟨m, e1, e2, a, b, c, e⟩ := h3 q hq
  exact ⟨m, e1, e2, a, b, c, k _ _ (n _ m) e⟩
def sp_law_draw (c : Cn) : Sp := fun vs H Q E => vs.length = 2 ∧ ∃ (d : Addr) (m : Int) (M : Addr → Prop), vs = [.ref d, .int m] ∧ 1 ≤ m ∧ m < 1073741824 ∧ DeckAt H d M ∧
  ∀ (H' : Hp) (n : Int), Keep M H H' → DeckAt H' d M → 0 ≤ n → n < m → Q (.int n) H'
theorem atI_get {xs : List V} {i : Int} {v : V} {n : Nat} (h : xs[n]? = some v) (e : i = n) : atI xs i = some v := by
  subst e
  have hn : n < xs.length := (List.getElem?_eq_some_iff.mp h).1
  unfold atI ixN
  rw [if_pos (Int.natCast_nonneg n), if_pos (by omega)]
  simpa using h
theorem p_law_draw {c : Cn} {mg : Str → Option Value} (T : Txt c mg) {vs : List V} {H : Hp} {Q : VK} {E : XK} (h : sp_law_draw c vs H Q E) : t_law_draw c { nx := fun _ H' => Q .non H', rt := Q } (start N_law_draw vs) H := by
  obtain ⟨_, d, m, M, rfl, m1, m2, D, k⟩ := h
  obtain ⟨pl, ps, i, h1, h0, h2, hp, ne, md, mpl, h3, h4⟩ := D.ex
  have hl : (0 : Int) < ps.length := by
    cases ps with
    | nil => exact absurd rfl hp
    | cons _ _ => simp only [List.length_cons]; omega
  have pos : (0 : Int) < (ps.map V.ref).length := by simpa using hl
  obtain ⟨q, hq, hqm⟩ : ∃ q, atI (ps.map V.ref) (i % ((ps.map V.ref).length : Int)) = some (V.ref q) ∧ q ∈ ps := by
    have b1 := Int.emod_nonneg i (Int.ne_of_gt pos)
    have b2 := Int.emod_lt_of_pos i pos
    obtain ⟨n, hn⟩ := Int.eq_ofNat_of_zero_le b1
    rw [hn] at b2 ⊢
    have lt : n < ps.length := by rw [List.length_map] at b2; omega
    exact ⟨ps[n], atI_get (n := n) (by simp [lt]) rfl, List.getElem_mem lt⟩
  obtain ⟨mq, qd, qp, a, b, k3, hq3⟩ := h3 q hqm
  -- the deck behind the turn
  have again : ∀ (H' : Hp), (∀ x o, x ≠ d → x ≠ q → H x = some o → H' x = some o) → H' d = some (.lst [.ref pl, .int (i + 1)]) → (∃ a b k, H' q = some (.lst [.int a, .int b, .int k])) → ∀ z : Int, Q (.int (z % m)) H' := by
    intro H' kp e1 e2 z
    refine k _ _ (fun x o nx hx => kp x o (fun z => nx (by rw [z]; exact md)) (fun z => nx (by rw [z]; exact mq)) hx) ⟨pl, ps, i + 1, e1, by omega, kp pl _ ne.symm qp.symm h2, hp, ne, md, mpl, fun x hx => ?_, h4⟩ (Int.emod_nonneg _ (by omega)) (Int.emod_lt_of_pos _ (by omega))
    obtain ⟨m1, n1, n2, a', b', k', e⟩ := h3 x hx
    refine ⟨m1, n1, n2, ?_⟩
    by_cases z : x = q
    · rw [z]; exact e2
    · exact ⟨a', b', k', kp x _ n1 z e⟩
  unfold t_law_draw
  repeat kaf_suf
  refine r_ite (fun e1 => ?_) (fun e1 => ?_) <;> repeat kaf_suf
  refine r_ite (fun e2 => ?_) (fun e2 => ?_) <;> repeat kaf_suf
  all_goals
    refine again _ (fun x o n1 n2 hx => ?_) ?_ ⟨_, _, _, upd_same⟩ _
    · kaf_pre
    · kaf_pre
theorem cal_law_draw {c : Cn} {mg : Str → Option Value} {base : Heap} (T : Txt c mg) : Cal c.P c.w c.K mg base CX0 1 "_law_draw" (sp_law_draw c) := by
  obtain ⟨f, fd, F, g, b⟩ := T.F_law_draw
  exact ⟨f, fd, ["deck", "many"], F.ok (k := 0) (N := N_law_draw) sc_law_draw (fun vs H Q E h => h.1) (fun cdv A outer s H vs Q E hr h => ⟨t_law_draw c, by
  exact (pss_cons (ps_set (i := 2) sc_law_draw.nd rfl (Or.inl rfl) (pe_ix (x_ix (hu64 hr)) (pe_ix (x_ix (hu64 hr)) (pv 0) pe_int (fun _ _ => rfl)) (pe_op o_mod (pe_ix (x_ix (hu64 hr)) (pv 0) pe_int (fun _ _ => rfl)) (pe_callB k_len (by rfl) T.n_len (by decide +kernel) (pa_cons (pe_ix (x_ix (hu64 hr)) (pv 0) pe_int (fun _ _ => rfl)) pa_nil))) (fun _ _ => rfl)))
  (pss_cons (ps_asg (pe_op o_add (pe_ix (x_ix (hu64 hr)) (pv 0) pe_int (fun _ _ => rfl)) pe_int) (pg_sub (pv 0) pe_int (s_set (hu64 hr))))
  (pss_cons (ps_if (PW.pt (pw_and (pt_cmpR (o_eq (hu64 hr)) (pe_ix (x_ix (hu64 hr)) (pv 2) pe_int (fun _ _ => rfl)) pe_int (nomark _)) (pw_and1 (pt_cmpR o_gt (pe_ix (x_ix (hu64 hr)) (pv 2) pe_int (fun _ _ => rfl)) pe_int (nomark _))))) (pss_cons (ps_set (i := 3) sc_law_draw.nd rfl (Or.inl rfl) (pe_op o_mod (pe_ix (x_ix (hu64 hr)) (pv 2) pe_int (fun _ _ => rfl)) (pv 1)))
  (pss_cons (ps_asg (pe_op o_div (pe_ix (x_ix (hu64 hr)) (pv 2) pe_int (fun _ _ => rfl)) (pv 1)) (pg_sub (pv 2) pe_int (s_set (hu64 hr))))
  (pss_one (ps_ret (pv 3))))) pss_nil)
  (pss_cons (ps_asg (pe_op o_add (pe_ix (x_ix (hu64 hr)) (pv 2) pe_int (fun _ _ => rfl)) pe_int) (pg_sub (pv 2) pe_int (s_set (hu64 hr))))
  (pss_cons (ps_set (i := 4) sc_law_draw.nd rfl (Or.inl rfl) (pe_op o_mod (pe_op o_add (pe_op o_mod (pe_ix (x_ix (hu64 hr)) (pv 2) pe_int (fun _ _ => rfl)) pe_int) (pe_op o_mul pe_int (pe_ix (x_ix (hu64 hr)) (pv 2) pe_int (fun _ _ => rfl)))) pe_int))
  (pss_cons (ps_set (i := 4) sc_law_draw.nd rfl (Or.inl rfl) (pe_op o_mod (pe_op o_mul (pv 4) (pv 4)) pe_int))
  (pss_cons (ps_set (i := 4) sc_law_draw.nd rfl (Or.inl rfl) (pe_op o_mod (pe_op o_mul (pv 4) (pe_op o_add (pv 4) pe_int)) pe_int))
  (pss_one (ps_ret (pe_op o_mod (pe_op o_div (pv 4) pe_int) (pv 1))))))))))), p_law_draw T h⟩), g, F.kp, b⟩
def sp_law_deck (c : Cn) : Sp := fun vs H Q E => vs.length = 1 ∧ ∃ (a : Addr) (ns : List Int), vs = [.ref a] ∧ SqL c.K H a (ns.map V.int) ∧ ns.length ≤ 63 ∧
  ∀ (H' : Hp) (d : Addr) (M : Addr → Prop), Keep Nil H H' → DeckAt H' d M → (∀ x, M x → H x = none) → Q (.ref d) H'
theorem p_law_deck {c : Cn} {mg : Str → Option Value} (T : Txt c mg) {vs : List V} {H : Hp} {Q : VK} {E : XK} (h : sp_law_deck c vs H Q E) : t_law_deck c { nx := fun _ H' => Q .non H', rt := Q } (start N_law_deck vs) H := by
  obtain ⟨_, a, ns, rfl, hs, few, k⟩ := h
  unfold t_law_deck
  repeat kaf_suf
  intro pl hpl
  have hl : (ns.map V.int).length ≤ 63 := by rw [List.length_map]; exact few
  repeat kaf_suf
  generalize hn : (if (if (↑(List.map V.int ns).length : Int) < 63 then (↑(List.map V.int ns).length : Int) else 63) > 1 then (if (↑(List.map V.int ns).length : Int) < 63 then (↑(List.map V.int ns).length : Int) else 63) else 1) = n
  have n1 : 1 ≤ n := by rw [← hn]; split <;> omega
  have n2 : n ≤ 63 := by rw [← hn]; split <;> (try split) <;> omega
  repeat kaf_suf
  refine for_range (lo := 0) (n := n.toNat) (fun i σ H' => ∃ (ps : List Addr) (x y : Option V), σ = [some (.ref a), some (.ref pl), x, y] ∧ H' pl = some (.lst (ps.map V.ref)) ∧ ps.length = i ∧ Keep Nil H H' ∧
    ∀ q ∈ ps, H q = none ∧ q ≠ pl ∧ ∃ a b c, H' q = some (.lst [.int a, .int b, .int c])) ⟨[], none, none, rfl, upd_same, rfl, Keep.alloc hpl, fun _ z => nomatch z⟩ ?_ ?_
  · rintro i σ H1 hi ⟨ps, x, y, rfl, e1, e2, kp, e3⟩
    have i63 : i < 63 := by omega
    repeat kaf_suf
    refine ⟨fun σ' H' => H' = H1 ∧ ∃ z : Int, σ' = [some (.ref a), some (.ref pl), some (.int (0 + i)), some (.int z)], ?_, ?_⟩
    · repeat kaf_suf
      refine r_ite (fun h => ?_) (fun h => ?_)
      · have lt : i < ns.length := by rw [List.length_map] at h; omega
        have hz : atI (ns.map V.int) (0 + (i : Int)) = some (V.int ns[i]) := atI_get (n := i) (by simp [lt]) (by omega)
        repeat kaf_suf
        exact ⟨rfl, _, rfl⟩
      · repeat kaf_suf
        exact ⟨rfl, _, rfl⟩
    · rintro σ' H' ⟨rfl, z, rfl⟩
      repeat kaf_suf
      intro p hp
      have npl : p ≠ pl := ne_new hp e1
      have hp0 := keep_none kp hp
      repeat kaf_suf
      refine ⟨ps ++ [p], _, _, rfl, ?_, by simp [e2], (kp.new hp).setN hpl, fun q hq => ?_⟩
      · rw [List.map_append]; exact upd_same
      · rcases List.mem_append.mp hq with hq | hq
        · obtain ⟨f1, f2, x, y, z, f3⟩ := e3 q hq
          exact ⟨f1, f2, x, y, z, by kaf_pre⟩
        · cases List.mem_singleton.mp hq
          exact ⟨hp0, npl, _, _, _, get_set npl upd_same⟩
  · rintro σ H1 ⟨ps, x, y, rfl, e1, e2, kp, e3⟩
    repeat kaf_suf
    intro d hd
    have ndp : d ≠ pl := ne_new hd e1
    refine k _ d (fun x => x = d ∨ x = pl ∨ x ∈ ps) (kp.new hd) ⟨pl, ps, 0, upd_same, Int.le_refl _, by kaf_pre, ?_, ndp, .inl rfl, .inr (.inl rfl), fun q hq => ?_, fun _ h => h⟩ fun x hx => ?_
    · intro z; rw [z] at e2; simp at e2; omega
    · obtain ⟨f1, f2, x, y, z, f3⟩ := e3 q hq
      exact ⟨.inr (.inr hq), ne_old hd f3, f2, x, y, z, by kaf_pre⟩
    · rcases hx with rfl | rfl | hx
      · exact keep_none kp hd
      · exact hpl
      · exact (e3 x hx).1
theorem cal_law_deck {c : Cn} {mg : Str → Option Value} {base : Heap} (T : Txt c mg) : Cal c.P c.w c.K mg base CX0 1 "_law_deck" (sp_law_deck c) := by
  obtain ⟨f, fd, F, g, b⟩ := T.F_law_deck
  exact ⟨f, fd, ["script"], F.ok (k := 0) (N := N_law_deck) sc_law_deck (fun vs H Q E h => h.1) (fun cdv A outer s H vs Q E hr h => ⟨t_law_deck c, by
  exact (pss_cons (ps_set (i := 1) sc_law_deck.nd rfl (Or.inl rfl) (pe_lst pa_nil))
  (pss_cons (ps_for PassesOwn.never rfl (pi_range1 rfl T.n_range (pa_cons (pe_callB (k_max rfl) (by rfl) T.n_max (by decide +kernel) (pa_cons pe_int (pa_cons (pe_callB (k_min rfl) (by rfl) T.n_min (by decide +kernel) (pa_cons pe_int (pa_cons (pe_callB k_len (by rfl) T.n_len (by decide +kernel) (pa_cons (pv 0) pa_nil)) pa_nil))) pa_nil))) pa_nil)) (pg_name (i := 2) sc_law_deck.nd rfl (Or.inl rfl))
  (pss_cons (ps_set (i := 3) sc_law_deck.nd rfl (Or.inl rfl) pe_int)
  (C8.pss_cut (ps_if (pt_cmpR (o_lt (hu64 hr)) (pv 2) (pe_callB k_len (by rfl) T.n_len (by decide +kernel) (pa_cons (pv 0) pa_nil)) (nomark _)) (pss_one (ps_set (i := 3) sc_law_deck.nd rfl (Or.inl rfl) (pe_ix (x_ix (hu64 hr)) (pv 0) (pv 2) (fun _ _ => rfl)))) pss_nil)
  (pss_one (ps_expr (pe_bm PySem.F.plainAttrs_list PySem.F.slot_list_append PySem.F.type_list_append mt_append (pv 1) (pa_cons (pe_lst (pa_cons (pv 3) (pa_cons (pe_callTy k_int (by rfl) T.n_int (by decide +kernel) (pa_cons (pe_cmpR o_ge (pv 3) (pe_op o_pow pe_int pe_int) (nomark _)) pa_nil)) (pa_cons (pe_op o_mul pe_int (pv 2)) pa_nil)))) pa_nil)))))))
  (pss_one (ps_ret (pe_lst (pa_cons (pv 1) (pa_cons pe_int pa_nil))))))), p_law_deck T h⟩), g, F.kp, b⟩

/-! the book -/
/-- the rising list of the members -/
def ins (x : Int) : List Int → List Int
  | [] => [x]
  | y :: r => if x < y then x :: y :: r else if x = y then y :: r else y :: ins x r
def canon (l : List Int) : List Int := l.foldr ins []
theorem ins_mem {x z : Int} : ∀ {l : List Int}, z ∈ ins x l ↔ z = x ∨ z ∈ l
  | [] => by simp [ins]
  | y :: r => by
    unfold ins
    split
    · simp
    · split
      · rename_i e; subst e; simp
      · rw [List.mem_cons, ins_mem, List.mem_cons]; constructor
        · rintro (h | h | h) <;> simp [h]
        · rintro (h | h | h) <;> simp [h]
theorem ins_up {x : Int} : ∀ {l : List Int}, l.Pairwise (· < ·) → (ins x l).Pairwise (· < ·)
  | [], _ => by simp [ins]
  | y :: r, h => by
    have h' := List.pairwise_cons.mp h
    unfold ins
    split
    · rename_i lt
      refine List.pairwise_cons.mpr ⟨fun z hz => ?_, h⟩
      rcases List.mem_cons.mp hz with e | hz
      · omega
      · have := h'.1 z hz; omega
    · split
      · exact h
      · refine List.pairwise_cons.mpr ⟨fun z hz => ?_, ins_up h'.2⟩
        rcases ins_mem.mp hz with e | hz
        · omega
        · exact h'.1 z hz
theorem canon_mem {z : Int} : ∀ {l : List Int}, z ∈ canon l ↔ z ∈ l
  | [] => by simp [canon]
  | y :: r => by
    show z ∈ ins y (canon r) ↔ _
    rw [ins_mem, canon_mem, List.mem_cons]
theorem canon_up : ∀ (l : List Int), (canon l).Pairwise (· < ·)
  | [] => List.Pairwise.nil
  | y :: r => ins_up (canon_up r)
theorem up_eq : ∀ {a b : List Int}, a.Pairwise (· < ·) → b.Pairwise (· < ·) → (∀ z, z ∈ a ↔ z ∈ b) → a = b
  | [], [], _, _, _ => rfl
  | [], y :: r, _, _, h => absurd ((h y).mpr List.mem_cons_self) (by simp)
  | x :: a, [], _, _, h => absurd ((h x).mp List.mem_cons_self) (by simp)
  | x :: a, y :: b, ha, hb, h => by
    have ha' := List.pairwise_cons.mp ha
    have hb' := List.pairwise_cons.mp hb
    have e : x = y := by
      rcases List.mem_cons.mp ((h x).mp List.mem_cons_self) with e | h1
      · exact e
      · rcases List.mem_cons.mp ((h y).mpr List.mem_cons_self) with e | h2
        · exact e.symm
        · have := hb'.1 x h1; have := ha'.1 y h2; omega
    subst e
    refine congrArg (x :: ·) (up_eq ha'.2 hb'.2 fun z => ⟨fun hz => ?_, fun hz => ?_⟩)
    · rcases List.mem_cons.mp ((h z).mp (List.mem_cons_of_mem _ hz)) with e | h1
      · have := ha'.1 z hz; omega
      · exact h1
    · rcases List.mem_cons.mp ((h z).mpr (List.mem_cons_of_mem _ hz)) with e | h1
      · have := hb'.1 z hz; omega
      · exact h1
theorem canon_eq {l ns : List Int} (h1 : ns.Pairwise (· < ·)) (h2 : ∀ z, z ∈ ns ↔ z ∈ l) : ns = canon l := up_eq h1 (canon_up l) fun z => by rw [h2, canon_mem]
theorem ins_len (x : Int) : ∀ (l : List Int), (ins x l).length ≤ l.length + 1
  | [] => by simp [ins]
  | y :: r => by
    have := ins_len x r
    unfold ins
    split
    · simp
    · split
      · simp
      · simp only [List.length_cons]; omega
theorem canon_len' : ∀ (l : List Int), (canon l).length ≤ l.length
  | [] => by simp [canon]
  | y :: r => by
    have h1 := canon_len' r
    have h2 := ins_len y (canon r)
    show (ins y (canon r)).length ≤ _
    simp only [List.length_cons]; omega
theorem canon_self {l : List Int} (h : l.Pairwise (· < ·)) : canon l = l := (canon_eq h fun _ => Iff.rfl).symm
/-- a game: left's moves, right's -/
abbrev Gm := List Int × List Int
def gkey (g : Gm) : NestedKey := .tup [.tup (g.1.map .num), .tup (g.2.map .num)]
theorem num_inj : ∀ {a b : List Int}, a.map NestedKey.num = b.map NestedKey.num → a = b
  | [], [], _ => rfl
  | [], _ :: _, h => by simp at h
  | _ :: _, [], h => by simp at h
  | x :: a, y :: b, h => by
    rw [List.map_cons, List.map_cons] at h
    injection h with h1 h2
    injection h1 with h1
    rw [h1, num_inj h2]
theorem gkey_inj {a b : Gm} (h : gkey a = gkey b) : a = b := by
  unfold gkey at h
  injection h with h
  injection h with h1 h2
  injection h1 with h1
  injection h2 with h2 _
  injection h2 with h2
  exact Prod.ext (num_inj h1) (num_inj h2)
/-- the depths of the moves -/
def dps (ds ms : List Int) : List Int := ms.map fun m => ds[m.toNat]?.getD 0
def deepest (ds : List Int) (ms : List Int) (d : Int) : Prop := (ms = [] → d = 0) ∧ (∀ x ∈ dps ds ms, x + 1 ≤ d) ∧ (ms ≠ [] → ∃ x ∈ dps ds ms, d = x + 1)
theorem dps_more {ds e ms : List Int} (h : ∀ m ∈ ms, 0 ≤ m ∧ m < ds.length) : dps (ds ++ e) ms = dps ds ms := by
  refine List.map_congr_left fun m hm => ?_
  obtain ⟨h1, h2⟩ := h m hm
  rw [List.getElem?_append_left (by omega)]
/-- what holds of a book's games -/
structure GOk (gs : List Gm) : Prop where
  zero : gs[0]? = some ([], [])
  nd : gs.Nodup
  up : ∀ g ∈ gs, g.1.Pairwise (· < ·) ∧ g.2.Pairwise (· < ·)
  low : ∀ (i : Nat) (g : Gm), gs[i]? = some g → ∀ m ∈ g.1 ++ g.2, 0 ≤ m ∧ m < i
/-- the depths -/
structure DOk (gs : List Gm) (ds : List Int) : Prop where
  len : ds.length = gs.length
  at_ : ∀ (i : Nat) (g : Gm) (d : Int), gs[i]? = some g → ds[i]? = some d → deepest ds (g.1 ++ g.2) d
def bookFs (mv nm dp : Addr) : List (Str × V) := [("moves", .ref mv), ("numbers", .ref nm), ("depths", .ref dp)]
theorem bookFs_moves {mv nm dp : Addr} : (bookFs mv nm dp).lookup ("moves" : Str) = some (.ref mv) := by rfl
theorem bookFs_numbers {mv nm dp : Addr} : (bookFs mv nm dp).lookup ("numbers" : Str) = some (.ref nm) := by rfl
theorem bookFs_depths {mv nm dp : Addr} : (bookFs mv nm dp).lookup ("depths" : Str) = some (.ref dp) := by rfl
theorem bookFs_need {mv nm dp : Addr} : (bookFs mv nm dp).lookup ("need" : Str) = none := by rfl
theorem bookFs_game {mv nm dp : Addr} : (bookFs mv nm dp).lookup ("game" : Str) = none := by rfl
theorem bookFs_lefts {mv nm dp : Addr} : (bookFs mv nm dp).lookup ("lefts" : Str) = none := by rfl
theorem bookFs_rights {mv nm dp : Addr} : (bookFs mv nm dp).lookup ("rights" : Str) = none := by rfl
theorem bookFs_depth {mv nm dp : Addr} : (bookFs mv nm dp).lookup ("depth" : Str) = none := by rfl
theorem bookFs_many {mv nm dp : Addr} : (bookFs mv nm dp).lookup ("many" : Str) = none := by rfl
/-- the tuple at t is the game g -/
def GAt (H : Hp) (t : Addr) (g : Gm) : Prop := ∃ a b, H t = some (.tup [.ref a, .ref b]) ∧ H a = some (.tup (g.1.map V.int)) ∧ H b = some (.tup (g.2.map V.int))
structure BookAt (c : Cn) (H : Hp) (b : Addr) (M : Addr → Prop) (gs : List Gm) (ds : List Int) : Prop where
  ok : GOk gs
  dok : DOk gs ds
  ex : ∃ (dx mv nm dp : Addr) (ts : List Addr) (xs : List NX), H b = some (.ins c.cBook dx (bookFs mv nm dp)) ∧ H mv = some (.lst (ts.map V.ref)) ∧ Paired (GAt H) ts gs ∧
    NdAt c.P c.w H nm xs ∧ xs.length = gs.length ∧ (∀ g : Gm, nval xs (gkey g) = if g ∈ gs then some (V.int (gs.idxOf g)) else none) ∧ H dp = some (.lst (ds.map V.int)) ∧
    M mv ∧ M nm ∧ M dp ∧ mv ≠ dp ∧ ∀ x, M x → x = mv ∨ x = nm ∨ x = dp
theorem BookAt.ins_ {c : Cn} {H : Hp} {b : Addr} {M : Addr → Prop} {gs : List Gm} {ds : List Int} (B : BookAt c H b M gs ds) : ∃ dx mv nm dp, H b = some (.ins c.cBook dx (bookFs mv nm dp)) := by
  obtain ⟨dx, mv, nm, dp, _, _, h, _⟩ := B.ex
  exact ⟨dx, mv, nm, dp, h⟩
theorem paired_get {α β : Type} {R : α → β → Prop} : ∀ {xs : List α} {ys : List β} {i : Nat} {y : β}, Paired R xs ys → ys[i]? = some y → ∃ x, xs[i]? = some x ∧ R x y
  | _, _, _, _, .nil, h => by simp at h
  | _, _, 0, _, .cons r _, h => by simp at h; subst h; exact ⟨_, rfl, r⟩
  | _, _, i + 1, _, .cons _ t, h => by
    obtain ⟨x, h1, h2⟩ := paired_get (i := i) t (by simpa using h)
    exact ⟨x, by simpa using h1, h2⟩
theorem paired_keep {α β : Type} {R S : α → β → Prop} {xs : List α} {ys : List β} (h : Paired R xs ys) (f : ∀ a b, R a b → S a b) : Paired S xs ys := Paired.mapP h f
theorem GAt.keep {H H' : Hp} {t : Addr} {g : Gm} (h : GAt H t g) (k : ∀ b xs, H b = some (.tup xs) → H' b = some (.tup xs)) : GAt H' t g := by
  obtain ⟨a, b, h1, h2, h3⟩ := h
  exact ⟨a, b, k _ _ h1, k _ _ h2, k _ _ h3⟩
section
variable {c : Cn} {H H' : Hp} {b : Addr} {M N : Addr → Prop} {gs : List Gm} {ds : List Int}
theorem BookAt.cell (B : BookAt c H b M gs ds) {x : Addr} (h : M x) : (∃ l, H x = some (.lst l)) ∨ ∃ φ, H x = some (.ext φ) := by
  obtain ⟨dx, mv, nm, dp, ts, xs, _, h2, _, h4, _, _, h7, _, _, _, _, h8⟩ := B.ex
  rcases h8 x h with rfl | rfl | rfl
  · exact .inl ⟨_, h2⟩
  · exact .inr ⟨_, h4.here⟩
  · exact .inl ⟨_, h7⟩
theorem BookAt.new (B : BookAt c H b M gs ds) {x : Addr} (h : H x = none) : ¬ M x := fun z => by
  rcases B.cell z with ⟨_, e⟩ | ⟨_, e⟩ <;> rw [h] at e <;> cases e
theorem BookAt.tupN (B : BookAt c H b M gs ds) {x : Addr} {l : List V} (h : H x = some (.tup l)) : ¬ M x := fun z => by
  rcases B.cell z with ⟨_, e⟩ | ⟨_, e⟩ <;> rw [h] at e <;> cases e
theorem BookAt.insN (B : BookAt c H b M gs ds) {x C dx : Addr} {l : List (Str × V)} (h : H x = some (.ins C dx l)) : ¬ M x := fun z => by
  rcases B.cell z with ⟨_, e⟩ | ⟨_, e⟩ <;> rw [h] at e <;> cases e
theorem BookAt.keep (B : BookAt c H b M gs ds) (k : Keep N H H') (n : ∀ x, N x → ∃ l, H x = some (.lst l)) (d : ∀ x, M x → ¬ N x) : BookAt c H' b M gs ds := by
  obtain ⟨dx, mv, nm, dp, ts, xs, h1, h2, h3, h4, h5, h6, h7, m1, m2, m3, ne, h8⟩ := B.ex
  have kt : ∀ q ys, H q = some (.tup ys) → H' q = some (.tup ys) := fun q ys e => k _ _ (fun z => by obtain ⟨l, e'⟩ := n q z; rw [e] at e'; cases e') e
  refine ⟨B.ok, B.dok, dx, mv, nm, dp, ts, xs, k _ _ (fun z => ?_) h1, k _ _ (d _ m1) h2, paired_keep h3 fun t g q => q.keep kt, ⟨k _ _ (d _ m2) h4.here, fun x hx => ⟨NkV.keeps kt _ _ (h4.keys x hx).1, (h4.keys x hx).2⟩⟩, h5, h6, k _ _ (d _ m3) h7, m1, m2, m3, ne, h8⟩
  obtain ⟨l, e'⟩ := n b z; rw [h1] at e'; cases e'
theorem BookAt.same (B : BookAt c H b M gs ds) (k : Keep Nil H H') : BookAt c H' b M gs ds := B.keep k (fun _ z => z.elim) fun _ _ z => z
theorem BookAt.pos (B : BookAt c H b M gs ds) : 0 < gs.length := by
  have := B.ok.zero
  exact (List.getElem?_eq_some_iff.mp this).1
end
local macro_rules | `(tactic| kaf_suf) => `(tactic| first
  | ((with_reducible refine' r_kfld ?a (Txt.cl_Book (by assumption)) (Txt.na_Book_moves (by assumption)) bookFs_moves ?_); (case a => (kaf_pre; done)))
  | ((with_reducible refine' r_kfld ?a (Txt.cl_Book (by assumption)) (Txt.na_Book_numbers (by assumption)) bookFs_numbers ?_); (case a => (kaf_pre; done)))
  | ((with_reducible refine' r_kfld ?a (Txt.cl_Book (by assumption)) (Txt.na_Book_depths (by assumption)) bookFs_depths ?_); (case a => (kaf_pre; done)))
  | ((with_reducible refine' r_kmeth ?a ?b ?_); (case a => (kaf_pre; done)); (case b => (first | with_reducible exact bookFs_need | with_reducible exact bookFs_game | with_reducible exact bookFs_lefts | with_reducible exact bookFs_rights | with_reducible exact bookFs_depth | with_reducible exact bookFs_many))))

abbrev N_Book_need : List Str := ["self", "g"]
theorem sc_Book_need : FnScope N_Book_need ["self", "g"] (defScope s_Book_need) := ⟨rfl, rfl, rfl, by decide +kernel, rfl, by decide +kernel, by decide +kernel⟩
def t_Book_need (c : Cn) : TS :=
  (tIfS (tOr (tNot (tTru c.K (tCB (rIsi c.K) (tCons (tVar 1) (tCons (tC (.ty "int")) tNil))))) (tOr (tTru c.K (tCB (rIsi c.K) (tCons (tVar 1) (tCons (tC (.ty "bool")) tNil)))) (tOr (tTest (tOp (cLt c.K) (tVar 1) (tC (.int 0)))) (tTest (tOp cGe (tVar 1) (tCB (kLen c.K) (tCons (tFld c.K (tVar 0) "moves") tNil)))))))
  tNever
  tNext)
def sp_Book_need (c : Cn) : Sp := fun vs H Q E => vs.length = 2 ∧ ∃ (b : Addr) (M : Addr → Prop) (gs : List Gm) (ds : List Int) (g : Int), vs = [.ref b, .int g] ∧ BookAt c H b M gs ds ∧ 0 ≤ g ∧ g < gs.length ∧ Q .non H
theorem p_Book_need {c : Cn} {mg : Str → Option Value} (T : Txt c mg) {vs : List V} {H : Hp} {Q : VK} {E : XK} (h : sp_Book_need c vs H Q E) : t_Book_need c { nx := fun _ H' => Q .non H', rt := Q } (start N_Book_need vs) H := by
  obtain ⟨_, b, M, gs, ds, g, rfl, B, g0, g1, k⟩ := h
  obtain ⟨dx, mv, nm, dp, ts, xs, h1, h2, h3, h4, h5, h6, h7, m1, m2, m3, ne, h8⟩ := B.ex
  have hl : ((ts.map V.ref).length : Int) = gs.length := by rw [List.length_map, Paired.length h3]
  unfold t_Book_need
  repeat kaf_suf
  exact k
theorem met_Book_need {c : Cn} {mg : Str → Option Value} {base : Heap} (T : Txt c mg) : Met c.P c.w c.K mg base CX0 1 c.cBook "need" (sp_Book_need c) := by
  obtain ⟨f, fd, F, g, b⟩ := T.F_Book_need
  exact ⟨f, fd, ["self", "g"], T.cl_Book, g, F.ok (k := 0) (N := N_Book_need) sc_Book_need (fun vs H Q E h => h.1) (fun cdv A outer s H vs Q E hr h => ⟨t_Book_need c, by
  exact (pss_one (ps_if (PW.pt (pw_or (pt_not (p_tru (pe_callB k_isi (by rfl) T.n_isinstance (by decide +kernel) (pa_cons (pv 1) (pa_cons (pe_bltn rfl T.n_int (by decide +kernel) rfl) pa_nil))))) (pw_or (p_tru (pe_callB k_isi (by rfl) T.n_isinstance (by decide +kernel) (pa_cons (pv 1) (pa_cons (pe_bltn rfl T.n_bool (by decide +kernel) rfl) pa_nil)))) (pw_or (pt_cmpR (o_lt (hu64 hr)) (pv 1) pe_int (nomark _)) (pw_or1 (pt_cmpR o_ge (pv 1) (pe_callB k_len (by rfl) T.n_len (by decide +kernel) (pa_cons (pe_fld (pv 0) rfl) pa_nil)) (nomark _))))))) (pss_one ps_never) pss_nil)), p_Book_need T h⟩), b⟩
/-! the games behind a putting -/
def addG (gs : List Gm) (k : Gm) : List Gm := if k ∈ gs then gs else gs ++ [k]
def ixG (gs : List Gm) (k : Gm) : Nat := gs.idxOf k
theorem nk_nums {H : Hp} : ∀ (l : List Int), NkVs H (l.map .num) (l.map V.int)
  | [] => by simp [NkVs]
  | x :: r => by
    simp only [List.map_cons, NkVs]
    exact ⟨_, _, rfl, by simp [NkV], nk_nums r⟩
theorem GAt.nk {H : Hp} {t : Addr} {g : Gm} (h : GAt H t g) : NkV H (gkey g) (.ref t) := by
  obtain ⟨a, b, h1, h2, h3⟩ := h
  unfold gkey
  simp only [NkV]
  refine ⟨t, _, rfl, h1, ?_⟩
  simp only [NkVs, NkV]
  exact ⟨_, _, rfl, ⟨a, _, rfl, h2, nk_nums _⟩, _, _, rfl, ⟨b, _, rfl, h3, nk_nums _⟩, rfl⟩
theorem dep_nums : ∀ (l : List Int), NestedKey.depthAll (l.map .num) ≤ 0
  | [] => by simp [NestedKey.depthAll]
  | x :: r => by
    have := dep_nums r
    simp only [List.map_cons, NestedKey.depthAll, NestedKey.depth]; omega
theorem gkey_depth (g : Gm) : (gkey g).depth ≤ 8 := by
  have h1 := dep_nums g.1
  have h2 := dep_nums g.2
  unfold gkey
  simp only [NestedKey.depth, NestedKey.depthAll]; omega
theorem nd_neL {P : Program} {w : World} {H : Hp} {a x : Addr} {xs : List NX} {l : List V} (N : NdAt P w H a xs) (h : H x = some (.lst l)) : x ≠ a := fun z => by
  rw [z, N.here] at h; unfold NdO at h; cases Option.some.inj h
theorem nd_neT {P : Program} {w : World} {H : Hp} {a x : Addr} {xs : List NX} {l : List V} (N : NdAt P w H a xs) (h : H x = some (.tup l)) : x ≠ a := fun z => by
  rw [z, N.here] at h; unfold NdO at h; cases Option.some.inj h
theorem nd_neI {P : Program} {w : World} {H : Hp} {a x C dx : Addr} {xs : List NX} {l : List (Str × V)} (N : NdAt P w H a xs) (h : H x = some (.ins C dx l)) : x ≠ a := fun z => by
  rw [z, N.here] at h; unfold NdO at h; cases Option.some.inj h
theorem lt_ne {H : Hp} {a x : Addr} {l m : List V} (N : H a = some (.lst m)) (h : H x = some (.tup l)) : x ≠ a := fun z => by
  rw [z, N] at h; cases h
theorem li_ne {H : Hp} {a x C dx : Addr} {l : List (Str × V)} {m : List V} (N : H a = some (.lst m)) (h : H x = some (.ins C dx l)) : x ≠ a := fun z => by
  rw [z, N] at h; cases h
theorem nput_new {xs : List NX} {k : NestedKey} {a : Addr} {v : V} (h : nval xs k = none) : nput xs k a v = xs ++ [(k, a, v)] := by
  unfold nput; rw [h]; rfl
theorem nval_snoc {xs : List NX} {k k' : NestedKey} {a : Addr} {v : V} : nval (xs ++ [(k, a, v)]) k' = (nval xs k').or (if k = k' then some v else none) := by
  unfold nval
  rw [List.find?_append]
  cases e : xs.find? fun x => decide (x.1 = k') with
  | some q => simp
  | none =>
    by_cases h : k = k'
    · simp [h]
    · simp [h]
theorem v_ninN {P : Program} {w : World} {K : PySem.W.Frag} {H : Hp} {Q : VK} {p a : Addr} {k : NestedKey} {xs : List NX} (N : NdAt P w H a xs) (kp : NkV H k (.ref p)) (d : k.depth ≤ 8) (q : Q (.bl (!(nval xs k).isSome)) H) : cNotIn P w K (.ref p) (.ref a) H Q := by
  refine .inr (.inr (.inr (.inr ⟨a, p, k, xs, rfl, rfl, N, kp, d, ?_⟩)))
  simpa using q
theorem v_inN {P : Program} {w : World} {K : PySem.W.Frag} {H : Hp} {Q : VK} {p a : Addr} {k : NestedKey} {xs : List NX} (N : NdAt P w H a xs) (kp : NkV H k (.ref p)) (d : k.depth ≤ 8) (q : Q (.bl (nval xs k).isSome) H) : cIn P w K (.ref p) (.ref a) H Q := by
  refine .inr (.inr (.inr (.inr ⟨a, p, k, xs, rfl, rfl, N, kp, d, ?_⟩)))
  simpa using q
theorem v_ixN {P : Program} {w : World} {K : PySem.W.Frag} {H : Hp} {Q : VK} {p a : Addr} {k : NestedKey} {xs : List NX} {v : V} (N : NdAt P w H a xs) (kp : NkV H k (.ref p)) (d : k.depth ≤ 8) (e : nval xs k = some v) (q : Q v H) : bIx P w K (.ref a) (.ref p) H Q :=
  .inr (.inr (.inr (.inr ⟨a, p, k, xs, v, rfl, rfl, N, kp, d, e, q⟩)))
theorem v_setN {P : Program} {w : World} {H : Hp} {Q : Hp → Prop} {p a : Addr} {k : NestedKey} {xs : List NX} {v : V} (N : NdAt P w H a xs) (kp : NkV H k (.ref p)) (d : k.depth ≤ 8) (l : xs.length < sizeLine) (q : Q (upd H a (NdO P w a (nput xs k p v)))) : bSet P w (.ref a) (.ref p) v H Q :=
  .inr (.inr ⟨a, p, k, xs, rfl, rfl, N, kp, d, l, q⟩)
theorem GOk.add {gs : List Gm} (o : GOk gs) {ls rs : List Int} (h : ∀ m ∈ ls ++ rs, 0 ≤ m ∧ m < gs.length) : GOk (addG gs (canon ls, canon rs)) := by
  unfold addG
  split
  · exact o
  · rename_i ni
    have pos : 0 < gs.length := (List.getElem?_eq_some_iff.mp o.zero).1
    refine ⟨?_, ?_, fun g hg => ?_, fun i g hi m hm => ?_⟩
    · rw [List.getElem?_append_left pos]; exact o.zero
    · refine List.nodup_append.mpr ⟨o.nd, by simp, fun a ha b hb => ?_⟩
      cases List.mem_singleton.mp hb
      exact fun z => ni (z ▸ ha)
    · rcases List.mem_append.mp hg with hg | hg
      · exact o.up g hg
      · cases List.mem_singleton.mp hg
        exact ⟨canon_up _, canon_up _⟩
    · by_cases lt : i < gs.length
      · rw [List.getElem?_append_left lt] at hi
        exact o.low i g hi m hm
      · have hl := (List.getElem?_eq_some_iff.mp hi).1
        have e : i = gs.length := by rw [List.length_append] at hl; simp at hl; omega
        subst e
        rw [List.getElem?_append_right (Nat.le_refl _)] at hi
        simp at hi
        subst hi
        rw [List.mem_append, canon_mem, canon_mem, ← List.mem_append] at hm
        exact h m hm
theorem DOk.add {gs : List Gm} {ds : List Int} (d : DOk gs ds) (o : GOk gs) {k : Gm} (h : ∀ m ∈ k.1 ++ k.2, 0 ≤ m ∧ m < gs.length) (ne : k.1 ++ k.2 ≠ []) {m : Int} (hm : m ∈ dps ds (k.1 ++ k.2)) (hx : ∀ x ∈ dps ds (k.1 ++ k.2), x ≤ m) : DOk (gs ++ [k]) (ds ++ [1 + m]) := by
  refine ⟨by simp [d.len], fun i g e hg he => ?_⟩
  by_cases lt : i < gs.length
  · rw [List.getElem?_append_left lt] at hg
    rw [List.getElem?_append_left (by rw [d.len]; exact lt)] at he
    have b : ∀ m ∈ g.1 ++ g.2, 0 ≤ m ∧ m < ds.length := fun m hm => by have := o.low i g hg m hm; rw [d.len]; omega
    unfold deepest
    rw [dps_more b]
    exact d.at_ i g e hg he
  · have hl := (List.getElem?_eq_some_iff.mp hg).1
    have e : i = gs.length := by rw [List.length_append] at hl; simp at hl; omega
    subst e
    rw [List.getElem?_append_right (Nat.le_refl _)] at hg
    rw [← d.len, List.getElem?_append_right (Nat.le_refl _)] at he
    simp at hg he
    subst hg he
    unfold deepest
    rw [dps_more (by rw [d.len]; exact h)]
    exact ⟨fun z => absurd z ne, fun x q => by have := hx x q; omega, fun _ => ⟨m, hm, by omega⟩⟩
theorem ixG_get {gs : List Gm} {k : Gm} (h : k ∈ gs) : gs[ixG gs k]? = some k := by
  have l := List.idxOf_lt_length_of_mem h
  rw [ixG, List.getElem?_eq_getElem l, List.getElem_idxOf l]
theorem addG_mem (gs : List Gm) (k : Gm) : k ∈ addG gs k := by
  unfold addG; split
  · assumption
  · simp
theorem addG_len {gs : List Gm} {k : Gm} : (addG gs k).length ≤ gs.length + 1 ∧ gs.length ≤ (addG gs k).length := by
  unfold addG; split <;> simp
theorem addG_get {gs : List Gm} {k g : Gm} {i : Nat} (h : gs[i]? = some g) : (addG gs k)[i]? = some g := by
  unfold addG; split
  · exact h
  · rw [List.getElem?_append_left (List.getElem?_eq_some_iff.mp h).1]; exact h
abbrev N_Book_game : List Str := ["self", "lefts", "rights", "g", "key"]
theorem sc_Book_game : FnScope N_Book_game ["self", "lefts", "rights"] (defScope s_Book_game) := ⟨rfl, rfl, rfl, by decide +kernel, rfl, by decide +kernel, by decide +kernel⟩
def t_Book_game (c : Cn) : TS :=
  (tSeq (tFor (iAny c.K (tOp (bAdd c.K) (tCB (kList c.K) (tCons (tVar 1) tNil)) (tCB (kList c.K) (tCons (tVar 2) tNil)))) (gName 3)
  (tDrop (tMeth c.cBook "need" (sp_Book_need c) [] E0 (tVar 0) (tCons (tVar 3) tNil))))
  (tSeq (tAsg (tTup (tCons (tCB (kTuple c.K) (tCons (tCB (kSorted c.K c.w) (tCons (tCB (uSetI c.K c.w) (tCons (tVar 1) tNil)) tNil)) tNil)) (tCons (tCB (kTuple c.K) (tCons (tCB (kSorted c.K c.w) (tCons (tCB (uSetI c.K c.w) (tCons (tVar 2) tNil)) tNil)) tNil)) tNil))) (gName 4))
  (C8.tCut (tIfS (tTest (tOp (cNotIn c.P c.w c.K) (tVar 4) (tFld c.K (tVar 0) "numbers")))
  (tSeq (tAsg (tCB (kLen c.K) (tCons (tFld c.K (tVar 0) "moves") tNil)) (gSub (tFld c.K (tVar 0) "numbers") (tVar 4) (bSet c.P c.w)))
  (tSeq (tDrop (tBM c.K "list" rAppend (tFld c.K (tVar 0) "moves") (tCons (tVar 4) tNil)))
  (tDrop (tBM c.K "list" rAppend (tFld c.K (tVar 0) "depths") (tCons (tOp (bAdd c.K) (tC (.int 1)) (tCB (kMax c.K) (tCons (tLc (iAny c.K (tOp (bAdd c.K) (tOp (bIx c.P c.w c.K) (tVar 4) (tC (.int 0))) (tOp (bIx c.P c.w c.K) (tVar 4) (tC (.int 1))))) (gName 3) tYes (tOp (bIx c.P c.w c.K) (tFld c.K (tVar 0) "depths") (tVar 3)) [3]) tNil))) tNil)))))
  tNext)
  (tRet (tOp (bIx c.P c.w c.K) (tFld c.K (tVar 0) "numbers") (tVar 4))))))
def sp_Book_game (c : Cn) : Sp := fun vs H Q E => vs.length = 3 ∧ ∃ (b l r : Addr) (M : Addr → Prop) (gs : List Gm) (ds ls rs : List Int), vs = [.ref b, .ref l, .ref r] ∧ BookAt c H b M gs ds ∧ H l = some (.lst (ls.map V.int)) ∧ H r = some (.lst (rs.map V.int)) ∧ ¬ M l ∧ ¬ M r ∧
  gs.length ≤ 90000 ∧ ls.length ≤ 4000 ∧ rs.length ≤ 4000 ∧ (∀ m ∈ ls ++ rs, 0 ≤ m ∧ m < gs.length) ∧
  ∀ (H' : Hp) (e : List Int), Keep M H H' → BookAt c H' b M (addG gs (canon ls, canon rs)) (ds ++ e) → Q (.int (ixG (addG gs (canon ls, canon rs)) (canon ls, canon rs))) H'
theorem p_Book_game {c : Cn} {mg : Str → Option Value} (T : Txt c mg) {vs : List V} {H : Hp} {Q : VK} {E : XK} (h : sp_Book_game c vs H Q E) : t_Book_game c { nx := fun _ H' => Q .non H', rt := Q } (start N_Book_game vs) H := by
  obtain ⟨_, b, l, r, M, gs, ds, ls, rs, rfl, B, hl, hr, nl, nr, fw1, fw2, fw3, low, k⟩ := h
  unfold t_Book_game
  repeat kaf_suf
  intro p1 hp1
  repeat kaf_suf
  intro p2 hp2
  repeat kaf_suf
  intro p3 hp3
  repeat kaf_suf
  have kp3 : Keep Nil H (upd (upd (upd H p1 (.lst (ls.map V.int))) p2 (.lst (rs.map V.int))) p3 (.lst (ls.map V.int ++ rs.map V.int))) := ((Keep.alloc hp1).new hp2).new hp3
  have B3 := B.same kp3
  have hl3 := kp3.get (fun z => z) hl
  have hr3 := kp3.get (fun z => z) hr
  have h3 : upd (upd (upd H p1 (.lst (ls.map V.int))) p2 (.lst (rs.map V.int))) p3 (.lst (ls.map V.int ++ rs.map V.int)) p3 = some (.lst (ls.map V.int ++ rs.map V.int)) := upd_same
  generalize hH3 : upd (upd (upd H p1 (.lst (ls.map V.int))) p2 (.lst (rs.map V.int))) p3 (.lst (ls.map V.int ++ rs.map V.int)) = H3 at kp3 B3 hl3 hr3 h3 ⊢
  refine for_list (xs := ls.map V.int ++ rs.map V.int) (fun i σ H' => H' = H3 ∧ ∃ y, σ = [some (.ref b), some (.ref l), some (.ref r), y, none]) ⟨rfl, _, rfl⟩ ?_ ?_ ?_
  · rintro i σ H' hi ⟨rfl, y, rfl⟩; exact SqL.of h3
  · rintro i x σ H' hi ⟨rfl, y, rfl⟩
    obtain ⟨m, hm, rfl⟩ : ∃ m ∈ ls ++ rs, V.int m = x := by
      rw [← List.map_append] at hi
      have := List.mem_of_getElem? hi
      exact List.mem_map.mp this
    obtain ⟨hm0, hm1⟩ := low m hm
    obtain ⟨dx, mv, nm, dp, hb3⟩ := B3.ins_
    repeat kaf_suf
    refine ⟨rfl, b, M, gs, ds, m, rfl, B3, hm0, hm1, ?_⟩
    repeat kaf_suf
    exact ⟨rfl, _, rfl⟩
  · rintro σ H' ⟨rfl, y, rfl⟩
    have w1 : ls.length ≤ 4000 := by omega
    have w2 : rs.length ≤ 4000 := by omega
    repeat kaf_suf
    intro p4 c4 hp4 _
    repeat kaf_suf
    intro ns4 p5 u4 m4 _ hp5
    repeat kaf_suf
    intro p6 hp6
    repeat kaf_suf
    intro p7 c7 hp7 _
    repeat kaf_suf
    intro ns7 p8 u7 m7 _ hp8
    repeat kaf_suf
    intro p9 hp9
    repeat kaf_suf
    intro t ht
    repeat kaf_suf
    obtain rfl : ns4 = canon ls := canon_eq u4 (by simpa using m4)
    obtain rfl : ns7 = canon rs := canon_eq u7 (by simpa using m7)
    refine absS (S := fun HT => Keep Nil H HT ∧ GAt HT t (canon ls, canon rs)) ⟨?_, p6, p9, upd_same, by kaf_pre, by kaf_pre⟩ fun HT ⟨kT, gT⟩ => ?_
    · exact (((((((kp3.new hp4).new hp5).new hp6).new hp7).new hp8).new hp9).new ht)
    have BT := B.same kT
    obtain ⟨dx, mv, nm, dp, ts, xs, h1, h2, h3, h4, h5, h6, h7, m1, m2, m3, ne, h8⟩ := BT.ex
    have hlen := BT.dok.len
    have htl := Paired.length h3
    have hv := h6 (canon ls, canon rs)
    refine ⟨fun σ' H2 => ∃ y e, σ' = [some (.ref b), some (.ref l), some (.ref r), y, some (.ref t)] ∧ Keep M H H2 ∧ BookAt c H2 b M (addG gs (canon ls, canon rs)) (ds ++ e) ∧ GAt H2 t (canon ls, canon rs), ?_, ?_⟩
    · repeat kaf_suf
      refine v_ninN h4 gT.nk (gkey_depth _) ?_
      by_cases hin : (canon ls, canon rs) ∈ gs
      · rw [hv, if_pos hin]
        repeat kaf_suf
        exact ⟨_, [], rfl, kT.weak, by rw [List.append_nil, addG, if_pos hin]; exact BT, gT⟩
      · rw [hv, if_neg hin]
        rw [if_neg hin] at hv
        refine r_kB (r_ite_nf ?_)
        repeat kaf_suf
        have e1 := nd_neL h4 h2
        have e2 := nd_neL h4 h7
        have e3 := nd_neI h4 h1
        have e4 := li_ne h2 h1
        have e5 := li_ne h7 h1
        obtain ⟨ka, kb, t1, t2, t3⟩ := id gT
        have ea1 := nd_neT h4 t1
        have ea2 := lt_ne h2 t1
        have ea3 := lt_ne h7 t1
        have eb1 := nd_neT h4 t2
        have eb2 := lt_ne h2 t2
        have eb3 := lt_ne h7 t2
        have ec1 := nd_neT h4 t3
        have ec2 := lt_ne h2 t3
        have ec3 := lt_ne h7 t3
        refine v_setN h4 gT.nk (gkey_depth _) (few1 (by omega)) ?_
        rw [nput_new hv]
        repeat kaf_suf
        have g1 := canon_len' ls
        have g2 := canon_len' rs
        intro p H' hp' kp'
        repeat kaf_suf
        intro D hD
        have hall : ∀ m ∈ canon ls ++ canon rs, 0 ≤ m ∧ m < gs.length := fun m hm => low m (by rw [List.mem_append, canon_mem, canon_mem, ← List.mem_append] at hm; exact hm)
        have hDp : H' dp = some (.lst (ds.map V.int)) := by kaf_pre
        have hlen2 : (dps ds (canon ls ++ canon rs)).length = (canon ls ++ canon rs).length := List.length_map _
        refine lc_tup (xs := (canon ls).map V.int ++ (canon rs).map V.int) (fun i H2 => H2 D = some (.lst (((dps ds (canon ls ++ canon rs)).take i).map V.int)) ∧ Keep Nil H' H2) ⟨upd_same, Keep.alloc hD⟩ ?_ ?_ ?_
        · rintro i H2 _ ⟨_, k2⟩; exact SqT.of (by kaf_pre)
        · rintro i x H2 hi ⟨e2, k2⟩
          rw [← List.map_append, List.getElem?_map] at hi
          obtain ⟨m, hm, rfl⟩ := Option.map_eq_some_iff.mp hi
          obtain ⟨b1, b2⟩ := hall m (List.mem_of_getElem? hm)
          have hm' := (List.getElem?_eq_some_iff.mp hm).1
          rw [List.length_append] at hm'
          obtain ⟨n, rfl⟩ := Int.eq_ofNat_of_zero_le b1
          have hn : n < ds.length := by omega
          have hx : atI (ds.map V.int) (n : Int) = some (V.int ds[n]) := atI_get (n := n) (by simp [hn]) rfl
          repeat kaf_suf
          refine ⟨rfl, ?_⟩
          repeat kaf_suf
          refine ⟨_, e2, few1 (by simp; omega), ?_, k2.setN hD⟩
          rw [upd_same]
          have e : (dps ds (canon ls ++ canon rs))[i]? = some ds[n] := by
            rw [dps, List.getElem?_map, hm]; simp [hn]
          rw [List.take_succ, e]; simp
        · rintro H2 ⟨e2, k2⟩
          have e3 : H2 D = some (.lst ((dps ds (canon ls ++ canon rs)).map V.int)) := by
            rw [e2, List.take_of_length_le (by rw [hlen2]; simp)]
          repeat kaf_suf
          have ea : addG gs (canon ls, canon rs) = gs ++ [(canon ls, canon rs)] := if_neg hin
          have nee : canon ls ++ canon rs ≠ [] := fun z => by
            obtain ⟨z1, z2⟩ := List.append_eq_nil_iff.mp z
            rw [z1, z2] at hin
            exact hin (List.mem_of_getElem? B.ok.zero)
          refine v_maxL e3 (by rw [hlen2]; exact List.length_pos_iff.mpr nee) fun m hm hmax => ?_
          repeat kaf_suf
          have kf : Keep M HT (upd H2 dp (.lst (ds.map V.int ++ [V.int (1 + m)]))) := Keep.set (Keep.trans (Keep.trans (Keep.set (Keep.set Keep.refl m2) m1) kp'.weak) k2.weak) m3
          have kt : ∀ q ys, HT q = some (.tup ys) → (upd H2 dp (.lst (ds.map V.int ++ [V.int (1 + m)]))) q = some (.tup ys) := fun q ys e => kf q _ (BT.tupN e) e
          have gf := gT.keep kt
          have hnm : H' nm = some (NdO c.P c.w nm (xs ++ [(gkey (canon ls, canon rs), t, V.int ((ts.map V.ref).length : Nat))])) := kp'.get (fun z => z) (get_set e1.symm upd_same)
          refine ⟨_, [1 + m], rfl, kT.weak.trans kf, ⟨B.ok.add low, ?_, dx, mv, nm, dp, ts ++ [t], xs ++ [(gkey (canon ls, canon rs), t, V.int ((ts.map V.ref).length : Nat))], ?_, ?_, ?_, ⟨?_, ?_⟩, ?_, ?_, ?_, m1, m2, m3, ne, h8⟩, gf⟩
          · rw [ea]; exact B.dok.add B.ok hall nee hm hmax
          · kaf_pre
          · rw [List.map_append]; kaf_pre
          · rw [ea]; exact Paired.snoc (paired_keep h3 fun t g q => q.keep kt) gf
          · refine get_set ?_ (k2.get (fun z => z) hnm)
            tlg_ne
          · intro x hx
            rcases List.mem_append.mp hx with hx | hx
            · exact ⟨NkV.keeps kt _ _ (h4.keys x hx).1, (h4.keys x hx).2⟩
            · cases List.mem_singleton.mp hx
              exact ⟨gf.nk, gkey_depth _⟩
          · rw [ea]; simp [h5]
          · intro g
            rw [ea, nval_snoc, h6, List.length_map, htl]
            by_cases hg : g ∈ gs
            · rw [if_pos hg, if_pos (List.mem_append_left _ hg), List.idxOf_append, if_pos hg]; rfl
            · rw [if_neg hg]
              by_cases e : g = (canon ls, canon rs)
              · subst e
                rw [if_pos rfl, if_pos (List.mem_append_right _ List.mem_cons_self), List.idxOf_append, if_neg hg]
                simp
              · rw [if_neg (fun z => e (gkey_inj z).symm), if_neg (by simp [hg, e])]; rfl
          · rw [List.map_append]; exact upd_same
    · rintro σ' H2 ⟨y', e, rfl, k2, B2, g2⟩
      obtain ⟨dx, mv, nm, dp, ts, xs, h1, h2, h3, h4, h5, h6, h7, m1, m2, m3, ne, h8⟩ := B2.ex
      repeat kaf_suf
      refine v_ixN h4 g2.nk (gkey_depth _) ((h6 _).trans (if_pos (addG_mem _ _))) ?_
      repeat kaf_suf
      exact k H2 e k2 B2
theorem met_Book_game {c : Cn} {mg : Str → Option Value} {base : Heap} (T : Txt c mg) : Met c.P c.w c.K mg base CX0 2 c.cBook "game" (sp_Book_game c) := by
  obtain ⟨f, fd, F, g, b⟩ := T.F_Book_game
  exact ⟨f, fd, ["self", "lefts", "rights"], T.cl_Book, g, F.ok (k := 1) (N := N_Book_game) sc_Book_game (fun vs H Q E h => h.1) (fun cdv A outer s H vs Q E hr h => ⟨t_Book_game c, by
  exact (pss_cons (ps_for PassesOwn.never rfl (pi_any (pe_op o_add (pe_callTy (k_list rfl) (by rfl) T.n_list (by decide +kernel) (pa_cons (pv 1) pa_nil)) (pe_callTy (k_list rfl) (by rfl) T.n_list (by decide +kernel) (pa_cons (pv 2) pa_nil)))) (pg_name (i := 3) sc_Book_game.nd rfl (Or.inl rfl))
  (pss_one (ps_expr (e_meth (met_Book_need T) hr (by decide) pass0 (pv 0) (pa_cons (pv 3) pa_nil)))))
  (pss_cons (ps_set (i := 4) sc_Book_game.nd rfl (Or.inl rfl) (pe_tup (pa_cons (pe_callTy k_tuple (by rfl) T.n_tuple (by decide +kernel) (pa_cons (pe_callB (k_sorted rfl) (by rfl) T.n_sorted (by decide +kernel) (pa_cons (pe_callTy (k_set rfl) (by rfl) T.n_set (by decide +kernel) (pa_cons (pv 1) pa_nil)) pa_nil)) pa_nil)) (pa_cons (pe_callTy k_tuple (by rfl) T.n_tuple (by decide +kernel) (pa_cons (pe_callB (k_sorted rfl) (by rfl) T.n_sorted (by decide +kernel) (pa_cons (pe_callTy (k_set rfl) (by rfl) T.n_set (by decide +kernel) (pa_cons (pv 2) pa_nil)) pa_nil)) pa_nil)) pa_nil))))
  (C8.pss_cut (ps_if (pt_cmpR (o_notin (hu65 hr)) (pv 4) (pe_fld (pv 0) rfl) (by rfl)) (pss_cons (ps_asg (pe_callB k_len (by rfl) T.n_len (by decide +kernel) (pa_cons (pe_fld (pv 0) rfl) pa_nil)) (pg_sub (pe_fld (pv 0) rfl) (pv 4) (s_set (hu64 hr))))
  (pss_cons (ps_expr (pe_bm PySem.F.plainAttrs_list PySem.F.slot_list_append PySem.F.type_list_append mt_append (pe_fld (pv 0) rfl) (pa_cons (pv 4) pa_nil)))
  (pss_one (ps_expr (pe_bm PySem.F.plainAttrs_list PySem.F.slot_list_append PySem.F.type_list_append mt_append (pe_fld (pv 0) rfl) (pa_cons (pe_op o_add pe_int (pe_callB (k_max rfl) (by rfl) T.n_max (by decide +kernel) (pa_cons (pe_lc (own := [("g", 3)]) rfl sc_Book_game.nd (pi_any (pe_op o_add (pe_ix (x_ix (hu64 hr)) (pv 4) pe_int (fun _ _ => rfl)) (pe_ix (x_ix (hu64 hr)) (pv 4) pe_int (fun _ _ => rfl)))) (blkOk_by (own := [("g", 3)]) (N := N_Book_game) (sc := defScope s_Book_game) (by decide +kernel)) (fun _ _ _ _ _ => (pg_name (i := 3) sc_Book_game.nd rfl (Or.inl rfl))) (fun _ _ _ _ _ => pts_nil) (fun _ _ _ _ _ => (pe_ix (x_ix (hu64 hr)) (pe_fld (pv 0) rfl) (pv 3) (fun _ _ => rfl)))) pa_nil))) pa_nil)))))) pss_nil)
  (pss_one (ps_ret (pe_ix (x_ix (hu64 hr)) (pe_fld (pv 0) rfl) (pv 4) (fun _ _ => rfl))))))), p_Book_game T h⟩), b⟩
/-! the book as it is made; how many -/
theorem putF_0 {x : V} : putF ("moves" : Str) x [] = [(("moves" : Str), x)] := by rfl
theorem putF_1 {x y : V} : putF ("numbers" : Str) y [(("moves" : Str), x)] = [(("moves" : Str), x), (("numbers" : Str), y)] := by
  unfold putF; rw [if_neg (by decide)]; rfl
theorem putF_2 {x y z : V} : putF ("depths" : Str) z [(("moves" : Str), x), (("numbers" : Str), y)] = [(("moves" : Str), x), (("numbers" : Str), y), (("depths" : Str), z)] := by
  unfold putF; rw [if_neg (by decide)]; unfold putF; rw [if_neg (by decide)]; rfl
theorem GOk.one : GOk [([], [])] := ⟨rfl, by simp, fun g hg => by cases List.mem_singleton.mp hg; exact ⟨List.Pairwise.nil, List.Pairwise.nil⟩, fun i g h m hm => by
  cases i with
  | zero => simp at h; subst h; simp at hm
  | succ i => simp at h⟩
theorem DOk.one : DOk [([], [])] [0] := ⟨rfl, fun i g d h hd => by
  cases i with
  | zero => simp at h hd; subst h hd; exact ⟨fun _ => rfl, fun x hx => by simp [dps] at hx, fun z => absurd rfl z⟩
  | succ i => simp at h⟩
abbrev N_Book_init : List Str := ["self"]
theorem sc_Book_init : FnScope N_Book_init ["self"] (defScope s_Book_init) := ⟨rfl, rfl, rfl, by decide +kernel, rfl, by decide +kernel, by decide +kernel⟩
def t_Book_init (c : Cn) : TS :=
  (tSeq (sFld c.K (tVar 0) (tLst (tCons (tTup (tCons (tTup tNil) (tCons (tTup tNil) tNil))) tNil)) "moves")
  (tSeq (sFld c.K (tVar 0) (uDisp1 c.P c.w (tTup (tCons (tTup tNil) (tCons (tTup tNil) tNil))) (tC (.int 0))) "numbers")
  (sFld c.K (tVar 0) (tLst (tCons (tC (.int 0)) tNil)) "depths")))
def sp_Book_init (c : Cn) : Sp := fun vs H Q E => vs.length = 1 ∧ ∃ (b dx : Addr), vs = [.ref b] ∧ H b = some (.ins c.cBook dx []) ∧
  ∀ (H' : Hp) (M : Addr → Prop), Keep (fun x => x = b) H H' → BookAt c H' b M [([], [])] [0] → (∀ x, M x → H x = none) → Q .non H'
theorem p_Book_init {c : Cn} {mg : Str → Option Value} (T : Txt c mg) {vs : List V} {H : Hp} {Q : VK} {E : XK} (h : sp_Book_init c vs H Q E) : t_Book_init c { nx := fun _ H' => Q .non H', rt := Q } (start N_Book_init vs) H := by
  obtain ⟨_, b, dx, rfl, hb, k⟩ := h
  unfold t_Book_init
  repeat kaf_suf
  intro p1 hp1
  repeat kaf_suf
  intro p2 hp2
  repeat kaf_suf
  intro p3 hp3
  repeat kaf_suf
  intro mv hmv
  repeat kaf_suf
  refine r_ksfld (by kaf_pre) (Txt.cl_Book T) (Txt.na_Book_moves T) (by decide) ?_
  repeat kaf_suf
  intro nm hnm
  repeat kaf_suf
  intro p4 hp4
  repeat kaf_suf
  intro p5 hp5
  repeat kaf_suf
  intro t ht
  repeat kaf_suf
  have w0 : nm ≠ mv := ne_new hnm (show _ = some (HO.lst [V.ref p3]) by kaf_pre)
  have w1 : b ≠ nm := ne_old hnm upd_same
  have w2 : mv ≠ b := ne_new hmv (by kaf_pre)
  have w3 : p3 ≠ mv := ne_old hmv upd_same
  have hnm0 : H nm = none := by
    have h0 := none_of_upd hnm
    exact none_of_upd (none_of_upd (none_of_upd (none_of_upd h0)))
  have hmv0 : H mv = none := none_of_upd (none_of_upd (none_of_upd hmv))
  refine ⟨gkey ([], []), t, rfl, by kaf_pre, GAt.nk (g := ([], [])) ⟨p4, p5, by kaf_pre, by kaf_pre, by kaf_pre⟩, gkey_depth _, ?_⟩
  repeat kaf_suf
  refine r_ksfld (by kaf_pre) (Txt.cl_Book T) (Txt.na_Book_numbers T) (by rw [putF_0]; simp) ?_
  repeat kaf_suf
  intro dp hdp
  repeat kaf_suf
  refine r_ksfld (by kaf_pre) (Txt.cl_Book T) (Txt.na_Book_depths T) (by rw [putF_0, putF_1]; simp) ?_
  repeat kaf_suf
  have hdp0 : H dp = none := by
    have := hdp
    repeat (first | exact this | replace this := none_of_upd this)
  have w4 : dp ≠ mv := ne_new hdp (show _ = some (HO.lst [V.ref p3]) by kaf_pre)
  have w5 : dp ≠ nm := ne_new hdp (show _ = some (NdO c.P c.w nm [(gkey ([], []), t, V.int 0)]) by kaf_pre)
  have w6 : dp ≠ b := ne_new hdp upd_same
  have x3 : p3 ≠ nm := ne_old hnm (by kaf_pre)
  have x2 : p2 ≠ nm := ne_old hnm (by kaf_pre)
  have x1 : p1 ≠ nm := ne_old hnm (by kaf_pre)
  have y3 : p3 ≠ b := ne_new hp3 (by kaf_pre)
  have y2 : p2 ≠ b := ne_new hp2 (by kaf_pre)
  have y1 : p1 ≠ b := ne_new hp1 (by kaf_pre)
  have z4 : p4 ≠ b := ne_new hp4 (by kaf_pre)
  have z5 : p5 ≠ b := ne_new hp5 (by kaf_pre)
  have z6 : t ≠ b := ne_new ht (by kaf_pre)
  have q4 : p4 ≠ nm := ne_new hp4 upd_same
  have q5 : p5 ≠ nm := ne_new hp5 (by kaf_pre)
  have q6 : t ≠ nm := ne_new ht (by kaf_pre)
  refine absQ (S := fun H' => Keep (fun x => x = b) H H' ∧ H' b = some (.ins c.cBook dx (bookFs mv nm dp)) ∧ H' mv = some (.lst [.ref p3]) ∧ H' p3 = some (.tup [.ref p1, .ref p2]) ∧ H' p1 = some (.tup []) ∧ H' p2 = some (.tup []) ∧
    H' nm = some (NdO c.P c.w nm [(gkey ([], []), t, V.int 0)]) ∧ H' t = some (.tup [.ref p4, .ref p5]) ∧ H' p4 = some (.tup []) ∧ H' p5 = some (.tup []) ∧ H' dp = some (.lst [.int 0])) ⟨?_, ?_, ?_, ?_, ?_, ?_, ?_, ?_, ?_, ?_, ?_⟩ fun HX ⟨f0, f1, f2, f3, f4, f5, f6, f7, f8, f9, f10⟩ => ?_
  · repeat (first | exact Keep.refl | refine' Keep.set ?_ rfl | refine' Keep.new ?_ (by assumption) | refine' Keep.setN ?_ (by assumption))
  · rw [putF_0, putF_1, putF_2]; exact upd_same
  · kaf_pre
  · kaf_pre
  · kaf_pre
  · kaf_pre
  · kaf_pre
  · kaf_pre
  · kaf_pre
  · kaf_pre
  · kaf_pre
  refine k HX (fun x => x = mv ∨ x = nm ∨ x = dp) f0 ⟨GOk.one, DOk.one, dx, mv, nm, dp, [p3], [(gkey ([], []), t, V.int 0)], f1, f2, .cons ⟨p1, p2, f3, f4, f5⟩ .nil, ⟨f6, fun x hx => ?_⟩, rfl, fun g => ?_, f10, .inl rfl, .inr (.inl rfl), .inr (.inr rfl), w4.symm, fun _ h => h⟩ fun x hx => ?_
  · cases List.mem_singleton.mp hx
    exact ⟨GAt.nk (g := ([], [])) ⟨p4, p5, f7, f8, f9⟩, gkey_depth _⟩
  · by_cases e : g = ([], [])
    · subst e; rfl
    · have e' : ¬ gkey ([], []) = gkey g := fun z => e (gkey_inj z).symm
      rw [if_neg (by simpa using e)]
      simp [nval, e']
  · rcases hx with rfl | rfl | rfl <;> assumption
theorem mak_Book {c : Cn} {mg : Str → Option Value} {base : Heap} (T : Txt c mg) : Mak c.P c.w c.K mg base CX0 1 "Book" c.cBook (sp_Book_init c) := by
  obtain ⟨f, fd, F, g, b⟩ := T.F_Book_init
  exact ⟨f, fd, ["self"], g, F.ok (k := 0) (N := N_Book_init) sc_Book_init (fun vs H Q E h => h.1) (fun cdv A outer s H vs Q E hr h => ⟨t_Book_init c, by
  exact (pss_cons (ps_fld (pv 0) (pe_lst (pa_cons (pe_tup (pa_cons (pe_tup pa_nil) (pa_cons (pe_tup pa_nil) pa_nil))) pa_nil)) rfl)
  (pss_cons (ps_fld (pv 0) (pe_disp1 (hu64 hr) (pe_tup (pa_cons (pe_tup pa_nil) (pa_cons (pe_tup pa_nil) pa_nil))) pe_int) rfl)
  (pss_one (ps_fld (pv 0) (pe_lst (pa_cons pe_int pa_nil)) rfl)))), p_Book_init T h⟩), T.g_Book, b⟩
abbrev N_Book_many : List Str := ["self"]
theorem sc_Book_many : FnScope N_Book_many ["self"] (defScope s_Book_many) := ⟨rfl, rfl, rfl, by decide +kernel, rfl, by decide +kernel, by decide +kernel⟩
def t_Book_many (c : Cn) : TS :=
  (tRet (tCB (kLen c.K) (tCons (tFld c.K (tVar 0) "moves") tNil)))
def sp_Book_many (c : Cn) : Sp := fun vs H Q E => vs.length = 1 ∧ ∃ (b : Addr) (M : Addr → Prop) (gs : List Gm) (ds : List Int), vs = [.ref b] ∧ BookAt c H b M gs ds ∧ Q (.int gs.length) H
theorem p_Book_many {c : Cn} {mg : Str → Option Value} (T : Txt c mg) {vs : List V} {H : Hp} {Q : VK} {E : XK} (h : sp_Book_many c vs H Q E) : t_Book_many c { nx := fun _ H' => Q .non H', rt := Q } (start N_Book_many vs) H := by
  obtain ⟨_, b, M, gs, ds, rfl, B, k⟩ := h
  obtain ⟨dx, mv, nm, dp, ts, xs, h1, h2, h3, h4, h5, h6, h7, m1, m2, m3, ne, h8⟩ := B.ex
  unfold t_Book_many
  repeat kaf_suf
  rw [List.length_map, Paired.length h3]
  exact k
theorem met_Book_many {c : Cn} {mg : Str → Option Value} {base : Heap} (T : Txt c mg) : Met c.P c.w c.K mg base CX0 1 c.cBook "many" (sp_Book_many c) := by
  obtain ⟨f, fd, F, g, b⟩ := T.F_Book_many
  exact ⟨f, fd, ["self"], T.cl_Book, g, F.ok (k := 0) (N := N_Book_many) sc_Book_many (fun vs H Q E h => h.1) (fun cdv A outer s H vs Q E hr h => ⟨t_Book_many c, by
  exact (pss_one (ps_ret (pe_callB k_len (by rfl) T.n_len (by decide +kernel) (pa_cons (pe_fld (pv 0) rfl) pa_nil)))), p_Book_many T h⟩), b⟩

/-! rows of games: a list of pairs of lists -/
def dInts (l : List Int) : PyData := .list (l.map PyData.int)
def dRow (g : Gm) : PyData := .tuple [dInts g.1, dInts g.2]
theorem eqv_ints : ∀ ns ms : List Int, PyData.eqvAll (ns.map PyData.int) (ms.map PyData.int) = decide (ns = ms)
  | [], [] => by simp [PyData.eqvAll]
  | [], _ :: _ => by simp [PyData.eqvAll]
  | _ :: _, [] => by simp [PyData.eqvAll]
  | a :: r, b :: t => by
    simp only [List.map_cons, PyData.eqvAll, PyData.eqv, eqv_ints r t]
    by_cases h : a = b <;> by_cases h' : r = t <;> simp [h, h']
theorem eqv_dInts (a b : List Int) : PyData.eqv (dInts a) (dInts b) = decide (a = b) := by
  unfold dInts; simp only [PyData.eqv]; exact eqv_ints a b
theorem eqv_dRow (g k : Gm) : PyData.eqv (dRow g) (dRow k) = decide (g = k) := by
  have e : PyData.eqv (dRow g) (dRow k) = (PyData.eqv (dInts g.1) (dInts k.1) && (PyData.eqv (dInts g.2) (dInts k.2) && true)) := by simp only [dRow, PyData.eqv, PyData.eqvAll]
  rw [e, eqv_dInts, eqv_dInts]
  obtain ⟨a, b⟩ := g; obtain ⟨a', b'⟩ := k
  by_cases h : a = a' <;> by_cases h' : b = b' <;> simp [h, h']
theorem lay_ints : ∀ ns : List Int, PyData.canLayAll0 (ns.map PyData.int) = true
  | [] => by simp [PyData.canLayAll0]
  | _ :: r => by simp [PyData.canLayAll0, PyData.canLay0, lay_ints r]
theorem dpt_ints : ∀ ns : List Int, PyData.depthAll (ns.map PyData.int) = 0
  | [] => by simp [PyData.depthAll]
  | _ :: r => by simp [PyData.depthAll, PyData.depth, dpt_ints r]
theorem dInts_lay (l : List Int) : (dInts l).canLay0 = true := by unfold dInts; simp only [PyData.canLay0]; exact lay_ints l
theorem dInts_dep (l : List Int) : (dInts l).depth = 1 := by unfold dInts; simp only [PyData.depth, dpt_ints]
theorem dRow_lay (g : Gm) : (dRow g).canLay0 = true := by simp [dRow, PyData.canLay0, PyData.canLayAll0, dInts_lay]
theorem dRow_dep (g : Gm) : (dRow g).depth = 2 := by simp [dRow, PyData.depth, PyData.depthAll, dInts_dep]
theorem dRows_lay : ∀ gs : List Gm, PyData.canLayAll0 (gs.map dRow) = true
  | [] => by simp [PyData.canLayAll0]
  | g :: r => by simp [PyData.canLayAll0, dRow_lay g, dRows_lay r]
theorem dRows_dep : ∀ gs : List Gm, PyData.depthAll (gs.map dRow) ≤ 2
  | [] => by simp [PyData.depthAll]
  | g :: r => by
    have h1 := dRows_dep r
    have h2 := dRow_dep g
    simp only [List.map_cons, PyData.depthAll]; omega
theorem shaped_of {d : PyData} (h : d.canLay0 = true) (k : d.depth ≤ 64) : SeqAt.shaped d = true := by
  show (d.canLay0 && decide (d.depth ≤ 64)) = true
  rw [Bool.and_eq_true]
  exact ⟨h, decide_eq_true k⟩
theorem dInts_sh (l : List Int) : SeqAt.shaped (dInts l) = true := shaped_of (dInts_lay l) (by rw [dInts_dep]; omega)
theorem dRow_sh (g : Gm) : SeqAt.shaped (dRow g) = true := shaped_of (dRow_lay g) (by rw [dRow_dep]; omega)
theorem dRows_sh (gs : List Gm) : SeqAt.shaped (.list (gs.map dRow)) = true := shaped_of (by simp only [PyData.canLay0]; exact dRows_lay gs) (by have := dRows_dep gs; simp only [PyData.depth]; omega)
theorem dTwo_sh (a b : List Int) : SeqAt.shaped (.list [dInts a, dInts b]) = true := shaped_of (by simp [PyData.canLay0, PyData.canLayAll0, dInts_lay]) (by simp [PyData.depth, PyData.depthAll, dInts_dep])
theorem eqv_two (a b a' b' : List Int) : PyData.eqv (.list [dInts a, dInts b]) (.list [dInts a', dInts b']) = (decide (a = a') && decide (b = b')) := by
  simp only [PyData.eqv, PyData.eqvAll, eqv_dInts, Bool.and_true]
theorem dp_all {K : PySem.W.Frag} {H : Hp} : ∀ (l : List Int), DpAll K H (l.map V.int) (l.map PyData.int)
  | [] => .nil
  | x :: r => .cons (.int x) (dp_all r)
theorem dp_ints {K : PySem.W.Frag} {H : Hp} {a : Addr} {l : List Int} (h : H a = some (.lst (l.map V.int))) : Dp K H (.ref a) (dInts l) := .lst (SqL.of h) (dp_all l)
theorem dp_two {K : PySem.W.Frag} {H : Hp} {p a b : Addr} {l m : List Int} (h : H p = some (.lst [.ref a, .ref b])) (h1 : H a = some (.lst (l.map V.int))) (h2 : H b = some (.lst (m.map V.int))) : Dp K H (.ref p) (.list [dInts l, dInts m]) :=
  .lst (SqL.of h) (.cons (dp_ints h1) (.cons (dp_ints h2) .nil))
def RowAt (W : Addr → Prop) (H : Hp) (t : Addr) (g : Gm) : Prop := ∃ a b, H t = some (.tup [.ref a, .ref b]) ∧ H a = some (.lst (g.1.map V.int)) ∧ H b = some (.lst (g.2.map V.int)) ∧ ¬ W t ∧ ¬ W a ∧ ¬ W b
theorem RowAt.keep {W : Addr → Prop} {H H' : Hp} {t : Addr} {g : Gm} (r : RowAt W H t g) (k : Keep W H H') : RowAt W H' t g := by
  obtain ⟨a, b, h1, h2, h3, n1, n2, n3⟩ := r
  exact ⟨a, b, k _ _ n1 h1, k _ _ n2 h2, k _ _ n3 h3, n1, n2, n3⟩
theorem RowAt.dp {K : PySem.W.Frag} {W : Addr → Prop} {H : Hp} {t : Addr} {g : Gm} (r : RowAt W H t g) : Dp K H (.ref t) (dRow g) := by
  obtain ⟨a, b, h1, h2, h3, _⟩ := r
  exact .tup (SqT.of h1) (.cons (dp_ints h2) (.cons (dp_ints h3) .nil))
def RowsAt (W : Addr → Prop) (H : Hp) (R : Addr) (gs : List Gm) : Prop := ∃ ks : List Addr, H R = some (.lst (ks.map V.ref)) ∧ Paired (RowAt W H) ks gs
theorem rows_dp {K : PySem.W.Frag} {W : Addr → Prop} {H : Hp} {ks : List Addr} {gs : List Gm} (p : Paired (RowAt W H) ks gs) : DpAll K H (ks.map V.ref) (gs.map dRow) := by
  induction p with
  | nil => exact .nil
  | cons r _ ih => exact .cons r.dp ih
theorem RowsAt.dp {K : PySem.W.Frag} {W : Addr → Prop} {H : Hp} {R : Addr} {gs : List Gm} (r : RowsAt W H R gs) : Dp K H (.ref R) (.list (gs.map dRow)) := by
  obtain ⟨ks, h, p⟩ := r
  exact .lst (SqL.of h) (rows_dp p)
theorem any_row (gs : List Gm) (k : Gm) : ((gs.map dRow).any fun z => PyData.eqv z (dRow k)) = decide (k ∈ gs) := by
  rw [List.any_map]
  have e : ((fun z => PyData.eqv z (dRow k)) ∘ dRow) = fun g => decide (g = k) := by funext g; exact eqv_dRow g k
  rw [e]
  by_cases h : k ∈ gs
  · rw [decide_eq_true h]; exact List.any_eq_true.mpr ⟨k, h, by simp⟩
  · rw [decide_eq_false h]; exact List.any_eq_false.mpr fun x hx => by simp; intro z; exact h (z ▸ hx)
theorem v_ninRows {P : Program} {w : World} {K : PySem.W.Frag} {W : Addr → Prop} {H : Hp} {Q : VK} {t R : Addr} {k : Gm} {gs : List Gm} (r : RowsAt W H R gs) (h : RowAt W H t k) (q : Q (.bl (!decide (k ∈ gs))) H) : cNotIn P w K (.ref t) (.ref R) H Q :=
  .inr (.inl ⟨_, _, h.dp, r.dp, dRow_sh _, dRows_sh _, by rw [any_row]; exact q⟩)
theorem v_indexRows {K : PySem.W.Frag} {W : Addr → Prop} {H : Hp} {Q : VK} {t R : Addr} {k : Gm} {gs : List Gm} (r : RowsAt W H R gs) (h : RowAt W H t k) (m : k ∈ gs) (q : Q (.int (ixG gs k)) H) : kIndex K (.ref R) [.ref t] H Q := by
  refine .inr ⟨R, .ref t, dRow k, gs.map dRow, ixG gs k, dRow k, rfl, rfl, r.dp, h.dp, dRows_sh _, dRow_sh _, ?_, by rw [eqv_dRow]; simp, fun j z hj hz => ?_, q⟩
  · rw [List.getElem?_map, ixG_get m]; rfl
  · rw [List.getElem?_map] at hz
    obtain ⟨g, hg, rfl⟩ := Option.map_eq_some_iff.mp hz
    rw [eqv_dRow]
    refine decide_eq_false fun e => ?_
    subst e
    obtain ⟨hl, hg⟩ := List.getElem?_eq_some_iff.mp hg
    have := List.not_of_lt_findIdx (p := fun x => x == g) (xs := gs) (i := j) hj
    simp [hg] at this
theorem up_len : ∀ (l : List Int) (lo n : Int), l.Pairwise (· < ·) → (∀ x ∈ l, lo ≤ x ∧ x < n) → lo ≤ n → (l.length : Int) ≤ n - lo
  | [], lo, n, _, _, h => by simp; omega
  | x :: r, lo, n, u, b, _ => by
    have u' := List.pairwise_cons.mp u
    have bx := b x List.mem_cons_self
    have := up_len r (x + 1) n u'.2 (fun y hy => ⟨by have := u'.1 y hy; omega, (b y (List.mem_cons_of_mem _ hy)).2⟩) (by omega)
    simp only [List.length_cons]; omega
theorem RowsAt.keep {W : Addr → Prop} {H H' : Hp} {R : Addr} {gs : List Gm} (r : RowsAt W H R gs) (k : Keep W H H') (e : ∀ o, H R = some o → H' R = some o) : RowsAt W H' R gs := by
  obtain ⟨ks, h, p⟩ := r
  exact ⟨ks, e _ h, paired_keep p fun t g q => q.keep k⟩

/-! the depth as it is told -/
abbrev N_Book_depth : List Str := ["self", "g"]
theorem sc_Book_depth : FnScope N_Book_depth ["self", "g"] (defScope s_Book_depth) := ⟨rfl, rfl, rfl, by decide +kernel, rfl, by decide +kernel, by decide +kernel⟩
def t_Book_depth (c : Cn) : TS :=
  (tSeq (tDrop (tMeth c.cBook "need" (sp_Book_need c) [] E0 (tVar 0) (tCons (tVar 1) tNil)))
  (tRet (tOp (bIx c.P c.w c.K) (tFld c.K (tVar 0) "depths") (tVar 1))))
def sp_Book_depth (c : Cn) : Sp := fun vs H Q E => vs.length = 2 ∧ ∃ (b : Addr) (M : Addr → Prop) (gs : List Gm) (ds : List Int) (g : Nat) (e : Int), vs = [.ref b, .int g] ∧ BookAt c H b M gs ds ∧ ds[g]? = some e ∧ Q (.int e) H
theorem p_Book_depth {c : Cn} {mg : Str → Option Value} (T : Txt c mg) {vs : List V} {H : Hp} {Q : VK} {E : XK} (h : sp_Book_depth c vs H Q E) : t_Book_depth c { nx := fun _ H' => Q .non H', rt := Q } (start N_Book_depth vs) H := by
  obtain ⟨_, b, M, gs, ds, g, e, rfl, B, hg, k⟩ := h
  obtain ⟨dx, mv, nm, dp, ts, xs, h1, h2, h3, h4, h5, h6, h7, m1, m2, m3, ne, h8⟩ := B.ex
  have hl := (List.getElem?_eq_some_iff.mp hg).1
  have hn := B.dok.len
  unfold t_Book_depth
  repeat kaf_suf
  refine ⟨rfl, b, M, gs, ds, g, rfl, B, by omega, by omega, ?_⟩
  have hx : atI (ds.map V.int) (g : Int) = some (V.int e) := atI_get (n := g) (by rw [List.getElem?_map, hg]; rfl) rfl
  repeat kaf_suf
  exact k
theorem met_Book_depth {c : Cn} {mg : Str → Option Value} {base : Heap} (T : Txt c mg) : Met c.P c.w c.K mg base CX0 2 c.cBook "depth" (sp_Book_depth c) := by
  obtain ⟨f, fd, F, g, b⟩ := T.F_Book_depth
  exact ⟨f, fd, ["self", "g"], T.cl_Book, g, F.ok (k := 1) (N := N_Book_depth) sc_Book_depth (fun vs H Q E h => h.1) (fun cdv A outer s H vs Q E hr h => ⟨t_Book_depth c, by
  exact (pss_cons (ps_expr (e_meth (met_Book_need T) hr (by decide) pass0 (pv 0) (pa_cons (pv 1) pa_nil)))
  (pss_one (ps_ret (pe_ix (x_ix (hu64 hr)) (pe_fld (pv 0) rfl) (pv 1) (fun _ _ => rfl))))), p_Book_depth T h⟩), b⟩
theorem DOk.pos {gs : List Gm} {ds : List Int} (o : GOk gs) (d : DOk gs ds) : ∀ (n i : Nat), i < n → ∀ e, ds[i]? = some e → 0 ≤ e
  | 0, _, h, _, _ => by omega
  | n + 1, i, h, e, he => by
    have hi := (List.getElem?_eq_some_iff.mp he).1
    obtain ⟨g, hg⟩ : ∃ g, gs[i]? = some g := ⟨_, List.getElem?_eq_getElem (by rw [← d.len]; exact hi)⟩
    obtain ⟨d1, _, d3⟩ := d.at_ i _ e hg he
    by_cases z : g.1 ++ g.2 = []
    · have := d1 z; omega
    · obtain ⟨x, hx, ex⟩ := d3 z
      obtain ⟨m, hm, rfl⟩ := List.mem_map.mp hx
      obtain ⟨l0, l1⟩ := o.low i _ hg m hm
      have : 0 ≤ ds[m.toNat]?.getD 0 := by
        cases q : ds[m.toNat]? with
        | none => simp
        | some v => exact DOk.pos o d n m.toNat (by omega) v q
      omega

/-! the moves as they are told -/
abbrev N_Book_lefts : List Str := ["self", "g"]
theorem sc_Book_lefts : FnScope N_Book_lefts ["self", "g"] (defScope s_Book_lefts) := ⟨rfl, rfl, rfl, by decide +kernel, rfl, by decide +kernel, by decide +kernel⟩
def t_Book_lefts (c : Cn) : TS :=
  (tSeq (tDrop (tMeth c.cBook "need" (sp_Book_need c) [] E0 (tVar 0) (tCons (tVar 1) tNil)))
  (tRet (tCB (kList c.K) (tCons (tOp (bIx c.P c.w c.K) (tOp (bIx c.P c.w c.K) (tFld c.K (tVar 0) "moves") (tVar 1)) (tC (.int 0))) tNil))))
def sp_Book_lefts (c : Cn) : Sp := fun vs H Q E => vs.length = 2 ∧ ∃ (b : Addr) (M : Addr → Prop) (gs : List Gm) (ds : List Int) (g : Nat) (gm : Gm), vs = [.ref b, .int g] ∧ BookAt c H b M gs ds ∧ gs[g]? = some gm ∧ ∀ p, H p = none → Q (.ref p) (upd H p (.lst (gm.1.map V.int)))
theorem p_Book_lefts {c : Cn} {mg : Str → Option Value} (T : Txt c mg) {vs : List V} {H : Hp} {Q : VK} {E : XK} (h : sp_Book_lefts c vs H Q E) : t_Book_lefts c { nx := fun _ H' => Q .non H', rt := Q } (start N_Book_lefts vs) H := by
  obtain ⟨_, b, M, gs, ds, g, gm, rfl, B, hg, k⟩ := h
  obtain ⟨dx, mv, nm, dp, ts, xs, h1, h2, h3, h4, h5, h6, h7, m1, m2, m3, ne, h8⟩ := B.ex
  have hl := (List.getElem?_eq_some_iff.mp hg).1
  unfold t_Book_lefts
  repeat kaf_suf
  refine ⟨rfl, b, M, gs, ds, g, rfl, B, by omega, by omega, ?_⟩
  obtain ⟨t, ht, ka, kb, t1, t2, t3⟩ := paired_get h3 hg
  have hx : atI (ts.map V.ref) (g : Int) = some (V.ref t) := atI_get (n := g) (by rw [List.getElem?_map, ht]; rfl) rfl
  repeat kaf_suf
  exact k
theorem met_Book_lefts {c : Cn} {mg : Str → Option Value} {base : Heap} (T : Txt c mg) : Met c.P c.w c.K mg base CX0 2 c.cBook "lefts" (sp_Book_lefts c) := by
  obtain ⟨f, fd, F, g, b⟩ := T.F_Book_lefts
  exact ⟨f, fd, ["self", "g"], T.cl_Book, g, F.ok (k := 1) (N := N_Book_lefts) sc_Book_lefts (fun vs H Q E h => h.1) (fun cdv A outer s H vs Q E hr h => ⟨t_Book_lefts c, by
  exact (pss_cons (ps_expr (e_meth (met_Book_need T) hr (by decide) pass0 (pv 0) (pa_cons (pv 1) pa_nil)))
  (pss_one (ps_ret (pe_callTy (k_list rfl) (by rfl) T.n_list (by decide +kernel) (pa_cons (pe_ix (x_ix (hu64 hr)) (pe_ix (x_ix (hu64 hr)) (pe_fld (pv 0) rfl) (pv 1) (fun _ _ => rfl)) pe_int (fun _ _ => rfl)) pa_nil))))), p_Book_lefts T h⟩), b⟩
abbrev N_Book_rights : List Str := ["self", "g"]
theorem sc_Book_rights : FnScope N_Book_rights ["self", "g"] (defScope s_Book_rights) := ⟨rfl, rfl, rfl, by decide +kernel, rfl, by decide +kernel, by decide +kernel⟩
def t_Book_rights (c : Cn) : TS :=
  (tSeq (tDrop (tMeth c.cBook "need" (sp_Book_need c) [] E0 (tVar 0) (tCons (tVar 1) tNil)))
  (tRet (tCB (kList c.K) (tCons (tOp (bIx c.P c.w c.K) (tOp (bIx c.P c.w c.K) (tFld c.K (tVar 0) "moves") (tVar 1)) (tC (.int 1))) tNil))))
def sp_Book_rights (c : Cn) : Sp := fun vs H Q E => vs.length = 2 ∧ ∃ (b : Addr) (M : Addr → Prop) (gs : List Gm) (ds : List Int) (g : Nat) (gm : Gm), vs = [.ref b, .int g] ∧ BookAt c H b M gs ds ∧ gs[g]? = some gm ∧ ∀ p, H p = none → Q (.ref p) (upd H p (.lst (gm.2.map V.int)))
theorem p_Book_rights {c : Cn} {mg : Str → Option Value} (T : Txt c mg) {vs : List V} {H : Hp} {Q : VK} {E : XK} (h : sp_Book_rights c vs H Q E) : t_Book_rights c { nx := fun _ H' => Q .non H', rt := Q } (start N_Book_rights vs) H := by
  obtain ⟨_, b, M, gs, ds, g, gm, rfl, B, hg, k⟩ := h
  obtain ⟨dx, mv, nm, dp, ts, xs, h1, h2, h3, h4, h5, h6, h7, m1, m2, m3, ne, h8⟩ := B.ex
  have hl := (List.getElem?_eq_some_iff.mp hg).1
  unfold t_Book_rights
  repeat kaf_suf
  refine ⟨rfl, b, M, gs, ds, g, rfl, B, by omega, by omega, ?_⟩
  obtain ⟨t, ht, ka, kb, t1, t2, t3⟩ := paired_get h3 hg
  have hx : atI (ts.map V.ref) (g : Int) = some (V.ref t) := atI_get (n := g) (by rw [List.getElem?_map, ht]; rfl) rfl
  repeat kaf_suf
  exact k
theorem met_Book_rights {c : Cn} {mg : Str → Option Value} {base : Heap} (T : Txt c mg) : Met c.P c.w c.K mg base CX0 2 c.cBook "rights" (sp_Book_rights c) := by
  obtain ⟨f, fd, F, g, b⟩ := T.F_Book_rights
  exact ⟨f, fd, ["self", "g"], T.cl_Book, g, F.ok (k := 1) (N := N_Book_rights) sc_Book_rights (fun vs H Q E h => h.1) (fun cdv A outer s H vs Q E hr h => ⟨t_Book_rights c, by
  exact (pss_cons (ps_expr (e_meth (met_Book_need T) hr (by decide) pass0 (pv 0) (pa_cons (pv 1) pa_nil)))
  (pss_one (ps_ret (pe_callTy (k_list rfl) (by rfl) T.n_list (by decide +kernel) (pa_cons (pe_ix (x_ix (hu64 hr)) (pe_ix (x_ix (hu64 hr)) (pe_fld (pv 0) rfl) (pv 1) (fun _ _ => rfl)) pe_int (fun _ _ => rfl)) pa_nil))))), p_Book_rights T h⟩), b⟩

/-! plain helpers -/
theorem any_eq {α : Type} {f g : α → Bool} : ∀ {l : List α}, (∀ m ∈ l, f m = g m) → l.any f = l.any g
  | [], _ => rfl
  | x :: r, h => by rw [List.any_cons, List.any_cons, h x List.mem_cons_self, any_eq fun m hm => h m (List.mem_cons_of_mem _ hm)]
def mvs (gs : List Gm) (g : Nat) (s : Bool) : List Int := match gs[g]? with
  | some x => if s then x.1 else x.2
  | none => []
theorem mvs_low {gs : List Gm} (o : GOk gs) {g : Nat} {s : Bool} {m : Int} (h : m ∈ mvs gs g s) : 0 ≤ m ∧ m < g ∧ g < gs.length := by
  unfold mvs at h
  cases e : gs[g]? with
  | none => rw [e] at h; simp at h
  | some x =>
    rw [e] at h
    have hl := (List.getElem?_eq_some_iff.mp e).1
    have := o.low g x e m (by
      cases s
      · simp at h; simp [h]
      · simp at h; simp [h])
    omega
theorem mvs_more {gs f : List Gm} {g : Nat} {s : Bool} (h : g < gs.length) : mvs (gs ++ f) g s = mvs gs g s := by
  unfold mvs; rw [List.getElem?_append_left h]
theorem nodup_le {α : Type} [DecidableEq α] : ∀ (l m : List α), l.Nodup → (∀ x ∈ l, x ∈ m) → l.length ≤ m.length
  | [], _, _, _ => Nat.zero_le _
  | x :: l, m, nd, h => by
    have nd' := List.nodup_cons.mp nd
    have hx := h x List.mem_cons_self
    have := nodup_le l (m.erase x) nd'.2 fun y hy => by
      have hm := h y (List.mem_cons_of_mem _ hy)
      exact (List.mem_erase_of_ne (fun (e : y = x) => nd'.1 (by rw [← e]; exact hy))).mpr hm
    rw [List.length_erase_of_mem hx] at this
    have := List.length_pos_of_mem hx
    simp only [List.length_cons]; omega
theorem nval_nput {xs : List NX} {k : NestedKey} {a : Addr} {v : V} : nval (nput xs k a v) k = some v := by
  unfold nput
  split
  · rename_i h
    clear a
    have go : ∀ xs : List NX, (nval xs k).isSome = true → nval (xs.map fun x => if x.1 = k then (x.1, x.2.1, v) else x) k = some v := fun xs => by
      unfold nval
      induction xs with
      | nil => intro h; simp at h
      | cons p q ih =>
        intro h
        rw [List.map_cons]
        by_cases e : p.1 = k
        · rw [if_pos e, List.find?_cons_of_pos (by simp [e])]; rfl
        · rw [if_neg e, List.find?_cons_of_neg (by simp [e])]
          rw [List.find?_cons_of_neg (by simp [e])] at h
          exact ih h
    exact go xs h
  · rename_i h
    rw [nval_snoc]
    have : nval xs k = none := by
      cases e : nval xs k with
      | none => rfl
      | some v => rw [e] at h; simp at h
    rw [this]; simp
theorem nval_mem {xs : List NX} {k : NestedKey} {v : V} (h : nval xs k = some v) : ∃ x ∈ xs, x.1 = k ∧ x.2.2 = v := by
  unfold nval at h
  obtain ⟨x, hx, rfl⟩ := Option.map_eq_some_iff.mp h
  exact ⟨x, List.mem_of_find?_eq_some hx, by simpa using List.find?_some hx, rfl⟩
theorem nval_none {xs : List NX} {k : NestedKey} (h : nval xs k = none) : ∀ x ∈ xs, x.1 ≠ k := fun x hx e => by
  unfold nval at h
  rw [Option.map_eq_none_iff] at h
  have := List.find?_eq_none.mp h x hx
  simp [e] at this
theorem any_filter {α : Type} [DecidableEq α] {p : α → Bool} : ∀ (l : List α), l.any p = !decide (l.filter p = [])
  | [] => by simp
  | x :: r => by
    by_cases h : p x = true
    · simp [h]
    · simp only [Bool.not_eq_true] at h
      rw [List.any_cons, h, Bool.false_or, any_filter r]
      simp [List.filter_cons, h]
theorem BookAt.keepX {c : Cn} {H H' : Hp} {b : Addr} {M N : Addr → Prop} {gs : List Gm} {ds : List Int} (B : BookAt c H b M gs ds) (k : Keep N H H') (n : ∀ x, N x → ∃ φ, H x = some (.ext φ)) (d : ∀ x, M x → ¬ N x) : BookAt c H' b M gs ds := by
  obtain ⟨dx, mv, nm, dp, ts, xs, h1, h2, h3, h4, h5, h6, h7, m1, m2, m3, ne, h8⟩ := B.ex
  have kt : ∀ q ys, H q = some (.tup ys) → H' q = some (.tup ys) := fun q ys e => k _ _ (fun z => by obtain ⟨l, e'⟩ := n q z; rw [e] at e'; cases e') e
  refine ⟨B.ok, B.dok, dx, mv, nm, dp, ts, xs, k _ _ (fun z => ?_) h1, k _ _ (d _ m1) h2, paired_keep h3 fun t g q => q.keep kt, ⟨k _ _ (d _ m2) h4.here, fun x hx => ⟨NkV.keeps kt _ _ (h4.keys x hx).1, (h4.keys x hx).2⟩⟩, h5, h6, k _ _ (d _ m3) h7, m1, m2, m3, ne, h8⟩
  obtain ⟨l, e'⟩ := n b z; rw [h1] at e'; cases e'
theorem v_setN' {P : Program} {w : World} {H : Hp} {Q : Hp → Prop} {p a : Addr} {k : NestedKey} {xs : List NX} {v : V} (N : NdAt P w H a xs) (kp : NkV H k (.ref p)) (d : k.depth ≤ 8) (l : xs.length < sizeLine) (q : Q (upd H a (NdO P w a (nput xs k p v)))) : bSet P w (.ref a) (.ref p) v H Q := v_setN N kp d l q
theorem BookAt.keepY {c : Cn} {H H' : Hp} {b : Addr} {M N : Addr → Prop} {gs : List Gm} {ds : List Int} (B : BookAt c H b M gs ds) (k : Keep N H H') (n : ∀ x, N x → (∀ l, H x ≠ some (.tup l)) ∧ ∀ C d l, H x ≠ some (.ins C d l)) (d : ∀ x, M x → ¬ N x) : BookAt c H' b M gs ds := by
  obtain ⟨dx, mv, nm, dp, ts, xs, h1, h2, h3, h4, h5, h6, h7, m1, m2, m3, ne, h8⟩ := B.ex
  have kt : ∀ q ys, H q = some (.tup ys) → H' q = some (.tup ys) := fun q ys e => k _ _ (fun z => (n q z).1 _ e) e
  exact ⟨B.ok, B.dok, dx, mv, nm, dp, ts, xs, k _ _ (fun z => (n b z).2 _ _ _ h1) h1, k _ _ (d _ m1) h2, paired_keep h3 fun t g q => q.keep kt, ⟨k _ _ (d _ m2) h4.here, fun x hx => ⟨NkV.keeps kt _ _ (h4.keys x hx).1, (h4.keys x hx).2⟩⟩, h5, h6, k _ _ (d _ m3) h7, m1, m2, m3, ne, h8⟩
abbrev KX := Key × V
theorem valV_mem {kvs : List KX} {k : Key} {v : V} (h : valV kvs k = some v) : ∃ x ∈ kvs, x.1 = k ∧ x.2 = v := by
  unfold valV at h
  obtain ⟨x, hx, rfl⟩ := Option.map_eq_some_iff.mp h
  exact ⟨x, List.mem_of_find?_eq_some hx, by simpa using List.find?_some hx, rfl⟩
theorem valV_none {kvs : List KX} {k : Key} (h : valV kvs k = none) : ∀ x ∈ kvs, x.1 ≠ k := fun x hx e => by
  unfold valV at h
  rw [Option.map_eq_none_iff] at h
  have := List.find?_eq_none.mp h x hx
  simp [e] at this
theorem putK_new {kvs : List KX} {k : Key} {v : V} (h : valV kvs k = none) : putK kvs k v = kvs ++ [(k, v)] := by
  unfold putK
  rw [if_neg]
  intro z
  obtain ⟨x, hx, e⟩ := List.any_eq_true.mp z
  exact valV_none h x hx (by simpa using e)
theorem putK_val {kvs : List KX} {k : Key} {v : V} : valV (putK kvs k v) k = some v := by
  unfold putK
  split
  · rename_i h
    induction kvs with
    | nil => simp at h
    | cons p q ih =>
      rw [List.map_cons]
      by_cases e : p.1 = k
      · rw [if_pos e]; exact valV_pos e
      · rw [if_neg e, valV_neg e]
        exact ih (by simpa [e] using h)
  · rename_i h
    unfold valV
    rw [List.find?_append]
    have : kvs.find? (fun kv => decide (kv.1 = k)) = none := List.find?_eq_none.mpr fun x hx z => h (List.any_eq_true.mpr ⟨x, hx, z⟩)
    rw [this]; simp
theorem putK_len {kvs : List KX} {k : Key} {v : V} : kvs.length ≤ (putK kvs k v).length := by
  unfold putK; split <;> simp
theorem addG_grow {gs : List Gm} {k : Gm} : ∃ f, addG gs k = gs ++ f ∧ f.length ≤ 1 ∧ (k ∈ gs → f = []) := by
  unfold addG; split
  · exact ⟨[], by simp, by simp, fun _ => rfl⟩
  · rename_i h
    exact ⟨[k], rfl, by simp, fun z => absurd z h⟩
theorem DOk.move {gs : List Gm} {ds : List Int} (o : GOk gs) (d : DOk gs ds) {g : Nat} {gm : Gm} {dg : Int} (hg : gs[g]? = some gm) (hd : ds[g]? = some dg) {m : Int} (hm : m ∈ gm.1 ++ gm.2) : ∃ dm, ds[m.toNat]? = some dm ∧ dm + 1 ≤ dg := by
  have low := o.low g gm hg m hm
  have lg := (List.getElem?_eq_some_iff.mp hg).1
  have dl := d.len
  obtain ⟨v, hv⟩ : ∃ v, ds[m.toNat]? = some v := ⟨_, List.getElem?_eq_getElem (by omega)⟩
  refine ⟨v, hv, (d.at_ g gm dg hg hd).2.1 v ?_⟩
  unfold dps
  exact List.mem_map.mpr ⟨m, hm, by rw [hv]; rfl⟩
theorem DOk.le {gs : List Gm} {ds : List Int} (o : GOk gs) (d : DOk gs ds) : ∀ (n g : Nat), g < n → ∀ dg, ds[g]? = some dg → dg ≤ g
  | 0, _, h, _, _ => by omega
  | n + 1, g, h, dg, hd => by
    have hl := (List.getElem?_eq_some_iff.mp hd).1
    obtain ⟨gm, hg⟩ : ∃ x, gs[g]? = some x := ⟨_, List.getElem?_eq_getElem (by have := d.len; omega)⟩
    obtain ⟨p1, p2, p3⟩ := d.at_ g gm dg hg hd
    by_cases z : gm.1 ++ gm.2 = []
    · have := p1 z; omega
    · obtain ⟨u, hu, eu⟩ := p3 z
      obtain ⟨m, hm, em⟩ := List.mem_map.mp hu
      have low := o.low g gm hg m hm
      obtain ⟨v, hv⟩ : ∃ v, ds[m.toNat]? = some v := ⟨_, List.getElem?_eq_getElem (by have := d.len; omega)⟩
      have := DOk.le o d n m.toNat (by omega) v hv
      rw [hv] at em
      have em' : v = u := em
      omega
theorem mvs_dep {gs : List Gm} {ds : List Int} (o : GOk gs) (d : DOk gs ds) {g : Nat} {s : Bool} {m : Int} (h : m ∈ mvs gs g s) {dg : Int} (hd : ds[g]? = some dg) : ∃ dm, ds[m.toNat]? = some dm ∧ dm + 1 ≤ dg := by
  obtain ⟨m0, m1, m2⟩ := mvs_low o h
  have e := List.getElem?_eq_getElem m2
  refine d.move o e hd ?_
  unfold mvs at h; rw [e] at h
  cases s
  · exact List.mem_append_right _ (by simpa using h)
  · exact List.mem_append_left _ (by simpa using h)

/-! floors: the plain law -/
abbrev Fl := List (Int × Int)
def stp (s : Bool) (p : Int × Int) : Int × Int := if s = true then (p.1 + 1, p.2) else (p.1, p.2 + 1)
def rem (F : Fl) (p q : Int × Int) : Fl := F.filter fun z => decide (z ≠ p) && decide (z ≠ q)
/-- a hand's moves -/
def Mv (s : Bool) (F F' : Fl) : Prop := ∃ p ∈ F, stp s p ∈ F ∧ F' = rem F p (stp s p)
theorem rem_sub {F : Fl} {p q : Int × Int} : (rem F p q).Sublist F := List.filter_sublist
theorem Mv.sub {s : Bool} {F F' : Fl} (m : Mv s F F') : F'.Sublist F := by
  obtain ⟨p, _, _, rfl⟩ := m
  exact rem_sub
theorem rem_less {F : Fl} {p q : Int × Int} (h : p ∈ F) : (rem F p q).length < F.length := by
  unfold rem
  rw [List.length_filter_lt_length_iff_exists]
  exact ⟨p, h, by simp⟩
theorem Mv.less {s : Bool} {F F' : Fl} (m : Mv s F F') : F'.length < F.length := by
  obtain ⟨p, h, _, rfl⟩ := m
  exact rem_less h
def gsd (gm : Gm) (s : Bool) : List Int := if s = true then gm.1 else gm.2
/-- a strip's game -/
def SN (gs : List Gm) : Nat → Fl → Nat → Prop
  | 0, _, _ => False
  | n + 1, l, g => ∃ gm, gs[g]? = some gm ∧ (∀ s x, Mv s l x → ∃ h : Nat, (h : Int) ∈ gsd gm s ∧ SN gs n x h) ∧ ∀ s, ∀ z ∈ gsd gm s, ∃ (x : Fl) (h : Nat), Mv s l x ∧ z = (h : Int) ∧ SN gs n x h
theorem SN.any {gs : List Gm} : ∀ {n : Nat} {l : Fl} {g : Nat}, SN gs n l g → ∀ m, l.length < m → SN gs m l g
  | 0, _, _, h, _, _ => h.elim
  | n + 1, l, g, ⟨gm, e, a, b⟩, m, hm => by
    obtain ⟨m, rfl⟩ : ∃ k, m = k + 1 := ⟨m - 1, by omega⟩
    refine ⟨gm, e, fun s x mv => ?_, fun s z hz => ?_⟩
    · obtain ⟨h, h1, h2⟩ := a s x mv
      exact ⟨h, h1, h2.any m (by have := mv.less; omega)⟩
    · obtain ⟨x, h, mv, ez, h2⟩ := b s z hz
      exact ⟨x, h, mv, ez, h2.any m (by have := mv.less; omega)⟩
theorem SN.more {gs f : List Gm} : ∀ {n : Nat} {l : Fl} {g : Nat}, SN gs n l g → SN (gs ++ f) n l g
  | 0, _, _, h => h
  | n + 1, l, g, ⟨gm, e, a, b⟩ => ⟨gm, by rw [List.getElem?_append_left (List.getElem?_eq_some_iff.mp e).1]; exact e, fun s x mv => by
      obtain ⟨h, h1, h2⟩ := a s x mv
      exact ⟨h, h1, h2.more⟩, fun s z hz => by
      obtain ⟨x, h, mv, ez, h2⟩ := b s z hz
      exact ⟨x, h, mv, ez, h2.more⟩⟩
theorem nodup_ix {gs : List Gm} (o : GOk gs) {g h : Nat} {gm : Gm} (a : gs[g]? = some gm) (b : gs[h]? = some gm) : g = h := by
  obtain ⟨l1, e1⟩ := List.getElem?_eq_some_iff.mp a
  obtain ⟨l2, e2⟩ := List.getElem?_eq_some_iff.mp b
  exact (List.getElem_inj o.nd).mp (e1.trans e2.symm)
theorem gm_eq {a b : Gm} (ua : a.1.Pairwise (· < ·) ∧ a.2.Pairwise (· < ·)) (ub : b.1.Pairwise (· < ·) ∧ b.2.Pairwise (· < ·)) (h : ∀ s z, z ∈ gsd a s ↔ z ∈ gsd b s) : a = b :=
  Prod.ext (up_eq ua.1 ub.1 fun z => h true z) (up_eq ua.2 ub.2 fun z => h false z)
theorem SN.uniq {gs : List Gm} (o : GOk gs) : ∀ {n m : Nat} {l : Fl} {g h : Nat}, SN gs n l g → SN gs m l h → g = h
  | 0, _, _, _, _, a, _ => a.elim
  | _ + 1, 0, _, _, _, _, b => b.elim
  | n + 1, m + 1, l, g, h, ⟨gm, e, a, b⟩, ⟨hm, e', a', b'⟩ => by
    have em : gm = hm := gm_eq (o.up gm (List.mem_of_getElem? e)) (o.up hm (List.mem_of_getElem? e')) fun s z => by
      constructor
      · intro hz
        obtain ⟨x, k, mv, rfl, h2⟩ := b s z hz
        obtain ⟨k', h3, h4⟩ := a' s x mv
        rw [h2.uniq o h4]; exact h3
      · intro hz
        obtain ⟨x, k, mv, rfl, h2⟩ := b' s z hz
        obtain ⟨k', h3, h4⟩ := a s x mv
        rw [← h4.uniq o h2]; exact h3
    subst em
    exact nodup_ix o e e'
def SG (gs : List Gm) (l : Fl) (g : Nat) : Prop := SN gs (l.length + 1) l g
theorem SG.more {gs f : List Gm} {l : Fl} {g : Nat} (h : SG gs l g) : SG (gs ++ f) l g := SN.more h
theorem SG.uniq {gs : List Gm} (o : GOk gs) {l : Fl} {g h : Nat} (a : SG gs l g) (b : SG gs l h) : g = h := SN.uniq o a b
theorem SG.inv {gs : List Gm} {l : Fl} {g : Nat} (h : SG gs l g) : ∃ gm, gs[g]? = some gm ∧ (∀ s x, Mv s l x → ∃ h : Nat, (h : Int) ∈ gsd gm s ∧ SG gs x h) ∧ ∀ s, ∀ z ∈ gsd gm s, ∃ (x : Fl) (h : Nat), Mv s l x ∧ z = (h : Int) ∧ SG gs x h := by
  obtain ⟨gm, e, a, b⟩ := h
  refine ⟨gm, e, fun s x mv => ?_, fun s z hz => ?_⟩
  · obtain ⟨h, h1, h2⟩ := a s x mv
    exact ⟨h, h1, h2.any _ (Nat.lt_succ_self _)⟩
  · obtain ⟨x, h, mv, ez, h2⟩ := b s z hz
    exact ⟨x, h, mv, ez, h2.any _ (Nat.lt_succ_self _)⟩
theorem SG.lt {gs : List Gm} {l : Fl} {g : Nat} (h : SG gs l g) : g < gs.length := by
  obtain ⟨gm, e, _⟩ := h.inv
  exact (List.getElem?_eq_some_iff.mp e).1
/-- the numbers of a hand's moves -/
def MsS (gs : List Gm) (s : Bool) (l : Fl) (ms : List Int) : Prop := (∀ x, Mv s l x → ∃ h : Nat, (h : Int) ∈ ms ∧ SG gs x h) ∧ ∀ z ∈ ms, ∃ (x : Fl) (h : Nat), Mv s l x ∧ z = (h : Int) ∧ SG gs x h
theorem MsS.more {gs f : List Gm} {s : Bool} {l : Fl} {ms : List Int} (m : MsS gs s l ms) : MsS (gs ++ f) s l ms := ⟨fun x mv => by
    obtain ⟨h, a, b⟩ := m.1 x mv
    exact ⟨h, a, b.more⟩, fun z hz => by
    obtain ⟨x, h, a, b, c⟩ := m.2 z hz
    exact ⟨x, h, a, b, c.more⟩⟩
theorem SG.mk {gs : List Gm} {l : Fl} {g : Nat} {gm : Gm} (e : gs[g]? = some gm) (m : ∀ s, MsS gs s l (gsd gm s)) : SG gs l g := by
  refine ⟨gm, e, fun s x mv => ?_, fun s z hz => ?_⟩
  · obtain ⟨h, h1, h2⟩ := (m s).1 x mv
    exact ⟨h, h1, SN.any h2 _ mv.less⟩
  · obtain ⟨x, h, mv, ez, h2⟩ := (m s).2 z hz
    exact ⟨x, h, mv, ez, SN.any h2 _ mv.less⟩
theorem MsS.canon {gs : List Gm} {s : Bool} {l : Fl} {ms : List Int} (m : MsS gs s l ms) : MsS gs s l (canon ms) := ⟨fun x mv => by
    obtain ⟨h, a, b⟩ := m.1 x mv
    exact ⟨h, canon_mem.mpr a, b⟩, fun z hz => m.2 z (canon_mem.mp hz)⟩
theorem SG.eq {gs : List Gm} (o : GOk gs) {l : Fl} {g : Nat} {gm : Gm} (h : SG gs l g) (u : gm.1.Pairwise (· < ·) ∧ gm.2.Pairwise (· < ·)) (m : ∀ s, MsS gs s l (gsd gm s)) : gs[g]? = some gm := by
  obtain ⟨hm, e, a, b⟩ := h.inv
  have em : hm = gm := gm_eq (o.up hm (List.mem_of_getElem? e)) u fun s z => by
    constructor
    · intro hz
      obtain ⟨x, k, mv, rfl, h2⟩ := b s z hz
      obtain ⟨k', h3, h4⟩ := (m s).1 x mv
      rw [h2.uniq o h4]; exact h3
    · intro hz
      obtain ⟨x, k, mv, rfl, h2⟩ := (m s).2 z hz
      obtain ⟨k', h3, h4⟩ := a s x mv
      rw [← h4.uniq o h2]; exact h3
  rw [← em]; exact e
def allF : Fl → List Fl
  | [] => [[]]
  | x :: r => allF r ++ (allF r).map (x :: ·)
theorem allF_len : ∀ F, (allF F).length = 2 ^ F.length
  | [] => rfl
  | x :: r => by
    show (allF r ++ (allF r).map (x :: ·)).length = 2 ^ (r.length + 1)
    rw [List.length_append, List.length_map, allF_len r, Nat.pow_succ]
    omega
theorem allF_mem {F G : Fl} (h : G.Sublist F) : G ∈ allF F := by
  induction h with
  | slnil => exact List.mem_cons_self
  | cons a _ ih => exact List.mem_append_left _ ih
  | cons_cons a _ ih => exact List.mem_append_right _ (List.mem_map.mpr ⟨_, ih, rfl⟩)
open Classical in
noncomputable def cnt (F0 : Fl) (gs : List Gm) : Nat := ((allF F0).filter fun l => decide (∃ g, SG gs l g)).length
theorem filter_le {α : Type} {p q : α → Bool} : ∀ {l : List α}, (∀ x ∈ l, p x = true → q x = true) → (l.filter p).length ≤ (l.filter q).length
  | [], _ => Nat.le_refl _
  | x :: l, h => by
    have := filter_le (l := l) fun y hy => h y (List.mem_cons_of_mem _ hy)
    have hx := h x List.mem_cons_self
    rw [List.filter_cons, List.filter_cons]
    cases hp : p x with
    | true => rw [hx hp, if_pos rfl, if_pos rfl, List.length_cons, List.length_cons]; omega
    | false =>
      rw [if_neg (fun z => by cases z)]
      split
      · rw [List.length_cons]; omega
      · exact this
theorem filter_lt {α : Type} {p q : α → Bool} : ∀ {l : List α} {a : α}, a ∈ l → (∀ x ∈ l, p x = true → q x = true) → p a = false → q a = true → (l.filter p).length + 1 ≤ (l.filter q).length
  | x :: l, a, m, h, pa, qa => by
    have hx := h x List.mem_cons_self
    have hl := filter_le (l := l) fun y hy => h y (List.mem_cons_of_mem _ hy)
    rw [List.filter_cons, List.filter_cons]
    rcases List.mem_cons.mp m with rfl | m
    · rw [pa, qa, if_neg (fun z => by cases z), if_pos rfl, List.length_cons]
      omega
    · have := filter_lt m (fun y hy => h y (List.mem_cons_of_mem _ hy)) pa qa
      cases hp : p x with
      | true => rw [hx hp, if_pos rfl, if_pos rfl, List.length_cons, List.length_cons]; omega
      | false =>
        rw [if_neg (fun z => by cases z)]
        split
        · rw [List.length_cons]; omega
        · exact this
theorem cnt_le (F0 : Fl) (gs : List Gm) : cnt F0 gs ≤ 2 ^ F0.length := by
  have := List.length_filter_le (fun l => @decide (∃ g, SG gs l g) (Classical.propDecidable _)) (allF F0)
  rw [allF_len] at this
  exact this
def InvF (F0 : Fl) (n0 : Nat) (gs : List Gm) : Prop := gs.length ≤ n0 + cnt F0 gs
theorem InvF.few {F0 : Fl} {n0 : Nat} {gs : List Gm} (i : InvF F0 n0 gs) : gs.length ≤ n0 + 2 ^ F0.length := by
  have := cnt_le F0 gs
  unfold InvF at i
  omega
open Classical in
theorem inv_add {gs : List Gm} (o : GOk gs) {F0 : Fl} {n0 : Nat} (i : InvF F0 n0 gs) {l : Fl} (ok : l.Sublist F0) {a b : List Int} (ha : MsS gs true l a) (hb : MsS gs false l b) : InvF F0 n0 (addG gs (canon a, canon b)) ∧ SG (addG gs (canon a, canon b)) l (ixG (addG gs (canon a, canon b)) (canon a, canon b)) := by
  have ms : ∀ s, MsS gs s l (gsd (canon a, canon b) s) := fun s => by
    cases s
    · exact hb.canon
    · exact ha.canon
  have sg : SG (addG gs (canon a, canon b)) l (ixG (addG gs (canon a, canon b)) (canon a, canon b)) := by
    obtain ⟨f, e, _⟩ := addG_grow (gs := gs) (k := (canon a, canon b))
    refine SG.mk (ixG_get (addG_mem _ _)) fun s => ?_
    rw [e]
    exact (ms s).more
  refine ⟨?_, sg⟩
  by_cases h : (canon a, canon b) ∈ gs
  · rw [show addG gs (canon a, canon b) = gs from if_pos h]; exact i
  · have e : addG gs (canon a, canon b) = gs ++ [(canon a, canon b)] := if_neg h
    rw [e] at sg ⊢
    have no : ¬ ∃ g, SG gs l g := fun ⟨g, hg⟩ => h (List.mem_of_getElem? (hg.eq o ⟨canon_up a, canon_up b⟩ ms))
    have lt : cnt F0 gs + 1 ≤ cnt F0 (gs ++ [(canon a, canon b)]) := by
      unfold cnt
      refine filter_lt (a := l) (allF_mem ok) (fun x _ hx => ?_) (decide_eq_false no) (decide_eq_true ⟨_, sg⟩)
      obtain ⟨g, hg⟩ := of_decide_eq_true hx
      exact decide_eq_true ⟨g, hg.more⟩
    unfold InvF at *
    rw [List.length_append]
    show gs.length + 1 ≤ _
    omega

/-! strips: the first walks -/
theorem lc_str {z : Str} {g : TG} {tt : TT} {te : TE} {vs : List Nat} {σ : L2.St} {H1 : Hp} {D : Addr} {Qd : Hp → Prop} (Pv : Nat → Hp → Prop) (h0 : Pv 0 (upd H1 D (.lst [])))
    (hs : ∀ i c H, z.cps.toList[i]? = some c → Pv i H → g (.str (T1 c)) (wipe σ vs) H fun σ2 H2 => wipe σ2 vs = wipe σ vs ∧ tt σ2 H2 fun b H3 =>
      if b = true then te σ2 H3 fun y H4 => ∃ acc, H4 D = some (.lst acc) ∧ acc.length < sizeLine ∧ Pv (i + 1) (upd H4 D (.lst (acc ++ [y]))) else Pv (i + 1) H3) (hd : ∀ H, Pv z.cps.toList.length H → Qd H) :
    ∃ W : Nat → Nat → Hp → Prop, (∃ m, W 0 m (upd H1 D (.lst []))) ∧ ∀ i m H, W i m H →
      ((Its z).stop i H ∧ Qd H) ∨ ((Its z).go i H ∧ ∃ Nx : Hp → Prop, (∀ H', Nx H' → ∃ m', m' < m ∧ W (i + 1) m' H') ∧ ∀ x H', (Its z).yld i H x H' → g x (wipe σ vs) H' fun σ2 H2 => wipe σ2 vs = wipe σ vs ∧ tt σ2 H2 fun b H3 =>
        if b = true then te σ2 H3 fun y H4 => ∃ acc, H4 D = some (.lst acc) ∧ acc.length < sizeLine ∧ Nx (upd H4 D (.lst (acc ++ [y]))) else Nx H3) := by
  have sz : z.cps.toList.length = z.cps.size := Array.length_toList
  refine ⟨fun i m H => m = z.cps.size - i ∧ i ≤ z.cps.size ∧ Pv i H, ⟨_, rfl, Nat.zero_le _, h0⟩, ?_⟩
  rintro i m H ⟨rfl, hi, p⟩
  by_cases lt : i < z.cps.size
  · refine .inr ⟨lt, Pv (i + 1), fun H' p' => ⟨z.cps.size - (i + 1), by omega, rfl, lt, p'⟩, fun x H' y => ?_⟩
    obtain ⟨rfl, c, hc, rfl⟩ := y
    exact hs i c H' (by rw [Array.getElem?_toList]; exact hc) p
  · have e : i = z.cps.size := by omega
    subst e
    exact .inl ⟨Nat.le_refl _, hd H (by rw [sz]; exact p)⟩
abbrev N_is_text_of : List Str := ["thing", "signs", "sign"]
theorem sc_is_text_of : FnScope N_is_text_of ["thing", "signs"] (defScope s_is_text_of) := ⟨rfl, rfl, rfl, by decide +kernel, rfl, by decide +kernel, by decide +kernel⟩
def t_is_text_of (c : Cn) : TS :=
  (tRet (tAndV (tCB (rIsi c.K) (tCons (tVar 0) (tCons (tC (.ty "str")) tNil))) (tOp (cEq c.K) (tLc (iStr (tVar 0)) (gName 2) (tTest (tOp cNotInS (tVar 2) (tVar 1))) (tVar 2) [2]) (tLst tNil))))
def sp_is_text_of (c : Cn) : Sp := fun vs H Q E => vs.length = 2 ∧ ∃ (z sg : Str), vs = [.str z, .str sg] ∧ (∀ c ∈ z.cps.toList, c ∈ sg.cps.toList) ∧ ∀ H', Keep Nil H H' → Q (.bl true) H'
theorem p_is_text_of {c : Cn} {mg : Str → Option Value} (T : Txt c mg) {vs : List V} {H : Hp} {Q : VK} {E : XK} (h : sp_is_text_of c vs H Q E) : t_is_text_of c { nx := fun _ H' => Q .non H', rt := Q } (start N_is_text_of vs) H := by
  obtain ⟨_, z, sg, rfl, all, k⟩ := h
  unfold t_is_text_of
  repeat kaf_suf
  refine r_iStr ?_
  repeat kaf_suf
  refine ⟨z, rfl, ?_⟩
  intro D hD
  refine lc_str (fun j H' => H' = upd H D (.lst [])) rfl ?_ ?_
  · rintro i ch H' hc rfl
    repeat kaf_suf
    refine ⟨rfl, ?_⟩
    repeat kaf_suf
    rw [decide_eq_true (all ch (List.mem_of_getElem? hc))]
    repeat kaf_suf
    rfl
  · rintro H' rfl
    have kD := Keep.alloc (M := Nil) (o := .lst []) hD
    have eD : (upd H D (.lst [])) D = some (.lst []) := upd_same
    generalize upd H D (.lst []) = H1 at kD eD ⊢
    repeat kaf_suf
    intro p hp
    refine v_eqD (d := .list []) (e := .list []) (.lst (SqL.of (get_new hp eD)) .nil) (.lst (SqL.of upd_same) .nil) (dInts_sh []) (dInts_sh []) ?_
    exact k _ (kD.new hp)
theorem cal_is_text_of {c : Cn} {mg : Str → Option Value} {base : Heap} (T : Txt c mg) : Cal c.P c.w c.K mg base CX0 1 "is_text_of" (sp_is_text_of c) := by
  obtain ⟨f, fd, F, g, b⟩ := T.F_is_text_of
  exact ⟨f, fd, ["thing", "signs"], F.ok (k := 0) (N := N_is_text_of) sc_is_text_of (fun vs H Q E h => h.1) (fun cdv A outer s H vs Q E hr h => ⟨t_is_text_of c, by
  exact (pss_one (ps_ret (pe_and (pe_callB k_isi (by rfl) T.n_isinstance (by decide +kernel) (pa_cons (pv 0) (pa_cons (pe_bltn rfl T.n_str (by decide +kernel) rfl) pa_nil))) (pe_one (pe_cmpR (o_eq (hu64 hr)) (pe_lc (own := [("sign", 2)]) rfl sc_is_text_of.nd (pi_str (pv 0)) (blkOk_by (own := [("sign", 2)]) (N := N_is_text_of) (sc := defScope s_is_text_of) (by decide +kernel)) (fun _ _ _ _ _ => (pg_name (i := 2) sc_is_text_of.nd rfl (Or.inl rfl))) (fun _ _ _ _ _ => (pts_one (pt_cmpR o_notinS (pv 2) (pv 1) (by rfl)))) (fun _ _ _ _ _ => (pv 2))) (pe_lst pa_nil) (nomark _)))))), p_is_text_of T h⟩), g, F.kp, b⟩

/-- a floor's rows -/
def OkFl (rows : List (List Nat)) : Prop := 1 ≤ rows.length ∧ rows.length ≤ 4 ∧ ∃ w, 1 ≤ w ∧ w ≤ 6 ∧ ∀ r ∈ rows, r.length = w ∧ ∀ c ∈ r, c = 46 ∨ c = 35
def lR (rows : List (List Nat)) : List V := rows.map fun r => V.str (tS r)
abbrev N_is_floor : List Str := ["thing", "row"]
theorem sc_is_floor : FnScope N_is_floor ["thing"] (defScope s_is_floor) := ⟨rfl, rfl, rfl, by decide +kernel, rfl, by decide +kernel, by decide +kernel⟩
def t_is_floor (c : Cn) : TS :=
  (tSeq (tIfS (tOr (tNot (tTru c.K (tCB (rIsi c.K) (tCons (tVar 0) (tCons (tC (.ty "list")) tNil))))) (tNot (tTest (tChain cLe cLe (tC (.int 1)) (tCB (kLen c.K) (tCons (tVar 0) tNil)) (tC (.int 4))))))
  (tRet (tC (.bl false)))
  tNext)
  (tSeq (tFor (iAny c.K (tVar 0)) (gName 1)
  (tIfS (tOr (tNot (tTru c.K (tCall (sp_is_text_of c) [] E0 (tCons (tVar 1) (tCons (tC (.str ".#")) tNil))))) (tOr (tNot (tTest (tChain cLe cLe (tC (.int 1)) (tCB (kLen c.K) (tCons (tVar 1) tNil)) (tC (.int 6))))) (tTest (tOp (cNe c.K) (tCB (kLen c.K) (tCons (tVar 1) tNil)) (tCB (kLen c.K) (tCons (tOp (bIx c.P c.w c.K) (tVar 0) (tC (.int 0))) tNil))))))
  (tRet (tC (.bl false)))
  tNext))
  (tRet (tC (.bl true)))))
def sp_is_floor (c : Cn) : Sp := fun vs H Q E => vs.length = 1 ∧ ∃ (f : Addr) (rows : List (List Nat)), vs = [.ref f] ∧ H f = some (.lst (lR rows)) ∧ OkFl rows ∧ ∀ H', Keep Nil H H' → Q (.bl true) H'
theorem p_is_floor {c : Cn} {mg : Str → Option Value} (T : Txt c mg) {vs : List V} {H : Hp} {Q : VK} {E : XK} (h : sp_is_floor c vs H Q E) : t_is_floor c { nx := fun _ H' => Q .non H', rt := Q } (start N_is_floor vs) H := by
  obtain ⟨_, f, rows, rfl, ef, ⟨r1, r4, w, w1, w6, ok⟩, k⟩ := h
  have ll : (lR rows).length = rows.length := List.length_map ..
  unfold t_is_floor
  repeat kaf_suf
  refine for_list (xs := lR rows) (fun j σ H' => ∃ x1 : Option V, σ = [some (.ref f), x1] ∧ Keep Nil H H') ⟨_, rfl, Keep.refl⟩ ?_ ?_ ?_
  · rintro j σ H' _ ⟨_, _, k1⟩
    exact SqL.of (k1.get (fun z => z) ef)
  rotate_left
  · rintro σ H' ⟨x1, rfl, k1⟩
    repeat kaf_suf
    exact k _ k1
  rintro j x σ H1 hx ⟨x1, rfl, k1⟩
  obtain ⟨r, hr, rfl⟩ := Option.map_eq_some_iff.mp (by rw [← List.getElem?_map]; exact hx)
  obtain ⟨rl, rs⟩ := ok r (List.mem_of_getElem? hr)
  obtain ⟨r0, hr0⟩ : ∃ r0, rows[0]? = some r0 := ⟨_, List.getElem?_eq_getElem (by omega)⟩
  have rl0 := (ok r0 (List.mem_of_getElem? hr0)).1
  repeat kaf_suf
  refine ⟨rfl, tS r, _, rfl, fun ch hc => ?_, fun H2 k2 => ?_⟩
  · have : ch = 46 ∨ ch = 35 := rs ch hc
    rcases this with rfl | rfl <;> decide
  have ef2 := (k1.trans k2).get (fun z => z) ef
  have hat : atI (lR rows) 0 = some (.str (tS r0)) := atI_get (n := 0) (by unfold lR; rw [List.getElem?_map, hr0]; rfl) rfl
  repeat kaf_suf
  have b1 : (tS r).length ≤ 100000 := by rw [tS_len]; omega
  have b0 : (tS r0).length ≤ 100000 := by rw [tS_len]; omega
  have e1 : (tS r).length = w := by rw [tS_len, rl]
  have e0 : (tS r0).length = w := by rw [tS_len, rl0]
  refine v_lenStr b1 ?_
  repeat kaf_suf
  exact ⟨_, rfl, k1.trans k2⟩
theorem cal_is_floor {c : Cn} {mg : Str → Option Value} {base : Heap} (T : Txt c mg) : Cal c.P c.w c.K mg base CX0 2 "is_floor" (sp_is_floor c) := by
  obtain ⟨f, fd, F, g, b⟩ := T.F_is_floor
  exact ⟨f, fd, ["thing"], F.ok (k := 1) (N := N_is_floor) sc_is_floor (fun vs H Q E h => h.1) (fun cdv A outer s H vs Q E hr h => ⟨t_is_floor c, by
  exact (pss_cons (ps_if (PW.pt (pw_or (pt_not (p_tru (pe_callB k_isi (by rfl) T.n_isinstance (by decide +kernel) (pa_cons (pv 0) (pa_cons (pe_bltn rfl T.n_list (by decide +kernel) rfl) pa_nil))))) (pw_or1 (pt_not (pt_chain o_le o_le pe_int (pe_callB k_len (by rfl) T.n_len (by decide +kernel) (pa_cons (pv 0) pa_nil)) (C8.pe_gc rfl (gint T.g_MOST_ROWS))))))) (pss_one (ps_ret pe_bl)) pss_nil)
  (pss_cons (ps_for PassesOwn.never rfl (pi_any (pv 0)) (pg_name (i := 1) sc_is_floor.nd rfl (Or.inl rfl))
  (pss_one (ps_if (PW.pt (pw_or (pt_not (p_tru (e_call (cal_is_text_of T) hr (by decide) pass0 rfl (pa_cons (pv 1) (pa_cons pe_str pa_nil))))) (pw_or (pt_not (pt_chain o_le o_le pe_int (pe_callB k_len (by rfl) T.n_len (by decide +kernel) (pa_cons (pv 1) pa_nil)) (C8.pe_gc rfl (gint T.g_MOST_SIDE)))) (pw_or1 (pt_cmpR (o_ne (hu64 hr)) (pe_callB k_len (by rfl) T.n_len (by decide +kernel) (pa_cons (pv 1) pa_nil)) (pe_callB k_len (by rfl) T.n_len (by decide +kernel) (pa_cons (pe_ix (x_ix (hu64 hr)) (pv 0) pe_int (fun _ _ => rfl)) pa_nil)) (nomark _)))))) (pss_one (ps_ret pe_bl)) pss_nil)))
  (pss_one (ps_ret pe_bl)))), p_is_floor T h⟩), g, F.kp, b⟩
abbrev N_Floors_init : List Str := ["self", "book"]
theorem sc_Floors_init : FnScope N_Floors_init ["self", "book"] (defScope s_Floors_init) := ⟨rfl, rfl, rfl, by decide +kernel, rfl, by decide +kernel, by decide +kernel⟩
def t_Floors_init (c : Cn) : TS :=
  (tSeq (sFld c.K (tVar 0) (tVar 1) "book")
  (sFld c.K (tVar 0) (uDNew c.P c.w) "games"))
abbrev N_Floors_behind : List Str := ["self", "free", "down", "across", "found", "y", "x", "other", "place"]
theorem sc_Floors_behind : FnScope N_Floors_behind ["self", "free", "down", "across"] (defScope s_Floors_behind) := ⟨rfl, rfl, rfl, by decide +kernel, rfl, by decide +kernel, by decide +kernel⟩
def t_Floors_behind (c : Cn) : TS :=
  (tSeq (tAsg (tLst tNil) (gName 4))
  (tSeq (tFor (iAny c.K (tVar 1)) (gSeq c.K 2 (gCons (gName 5) (gCons (gName 6) gNil)))
  (tSeq (tAsg (tTup (tCons (tOp (bAdd c.K) (tVar 5) (tVar 2)) (tCons (tOp (bAdd c.K) (tVar 6) (tVar 3)) tNil))) (gName 7))
  (tIfS (tTest (tOp (cInT c.K) (tVar 7) (tVar 1)))
  (tDrop (tBM c.K "list" rAppend (tVar 4) (tCons (tCB (kTuple c.K) (tCons (tLc (iAny c.K (tVar 1)) (gName 8) (tAnd (tTest (tOp (cNe c.K) (tVar 8) (tTup (tCons (tVar 5) (tCons (tVar 6) tNil))))) (tTest (tOp (cNe c.K) (tVar 8) (tVar 7)))) (tVar 8) [8]) tNil)) tNil)))
  tNext)))
  (tRet (tVar 4))))
/-- the free places, a tuple of pairs -/
def PrAt (H : Hp) (x : V) (p : Int × Int) : Prop := ∃ a, x = .ref a ∧ H a = some (.tup [.int p.1, .int p.2])
def FrAt (H : Hp) (a : Addr) (F : Fl) : Prop := ∃ xs : List V, H a = some (.tup xs) ∧ Paired (PrAt H) xs F
theorem PrAt.keeps {H H' : Hp} {x : V} {p : Int × Int} (h : PrAt H x p) (k : ∀ p ys, H p = some (.tup ys) → H' p = some (.tup ys)) : PrAt H' x p := by
  obtain ⟨a, rfl, e⟩ := h
  exact ⟨a, rfl, k _ _ e⟩
theorem FrAt.keeps {H H' : Hp} {a : Addr} {F : Fl} (h : FrAt H a F) (k : ∀ p ys, H p = some (.tup ys) → H' p = some (.tup ys)) : FrAt H' a F := by
  obtain ⟨xs, e, p⟩ := h
  exact ⟨xs, k _ _ e, paired_keep p fun _ _ q => q.keeps k⟩
def dP (p : Int × Int) : PyData := .tuple [.int p.1, .int p.2]
theorem PrAt.data {K : PySem.W.Frag} {H : Hp} {x : V} {p : Int × Int} (h : PrAt H x p) : Dp K H x (dP p) := by
  obtain ⟨a, rfl, e⟩ := h
  exact .tup (SqT.of e) (.cons (.int _) (.cons (.int _) .nil))
theorem eqv_dP (p q : Int × Int) : PyData.eqv (dP p) (dP q) = decide (p = q) := by
  obtain ⟨a, b⟩ := p
  obtain ⟨c, d⟩ := q
  simp only [dP, PyData.eqv, PyData.eqvAll, Bool.and_true]
  by_cases h1 : a = c <;> by_cases h2 : b = d <;> simp [h1, h2]
theorem dP_sh (p : Int × Int) : SeqAt.shaped (dP p) = true := shaped_of (by simp [dP, PyData.canLay0, PyData.canLayAll0]) (by simp [dP, PyData.depth, PyData.depthAll])

/-! games of floors -/
def stFs (b d : Addr) : List (Str × V) := [("book", .ref b), ("games", .ref d)]
theorem stFs_book {b d : Addr} : (stFs b d).lookup ("book" : Str) = some (.ref b) := by rfl
theorem stFs_games {b d : Addr} : (stFs b d).lookup ("games" : Str) = some (.ref d) := by rfl
theorem stFs_game {b d : Addr} : (stFs b d).lookup ("game" : Str) = none := by rfl
theorem stFs_behind {b d : Addr} : (stFs b d).lookup ("behind" : Str) = none := by rfl
local macro_rules | `(tactic| kaf_suf) => `(tactic| first
  | ((with_reducible refine' r_kfld ?a (Txt.cl_Floors (by assumption)) (Txt.na_Floors_book (by assumption)) stFs_book ?_); (case a => (kaf_pre; done)))
  | ((with_reducible refine' r_kfld ?a (Txt.cl_Floors (by assumption)) (Txt.na_Floors_games (by assumption)) stFs_games ?_); (case a => (kaf_pre; done)))
  | ((with_reducible refine' r_kmeth ?a ?b ?_); (case a => (kaf_pre; done)); (case b => (first | with_reducible exact stFs_game | with_reducible exact stFs_behind))))
def FlrAt (c : Cn) (H : Hp) (S b d : Addr) : Prop := ∃ dx, H S = some (.ins c.cFloors dx (stFs b d))
def sp_Floors_init (c : Cn) : Sp := fun vs H Q E => vs.length = 2 ∧ ∃ (x b dx : Addr), vs = [.ref x, .ref b] ∧ H x = some (.ins c.cFloors dx []) ∧
  ∀ (H' : Hp) (d : Addr), H d = none → Keep (fun a => a = x) H H' → FlrAt c H' x b d → NdAt c.P c.w H' d [] → Q .non H'
theorem p_Floors_init {c : Cn} {mg : Str → Option Value} (T : Txt c mg) {vs : List V} {H : Hp} {Q : VK} {E : XK} (h : sp_Floors_init c vs H Q E) : t_Floors_init c { nx := fun _ H' => Q .non H', rt := Q } (start N_Floors_init vs) H := by
  obtain ⟨_, x, b, dx, rfl, hx, k⟩ := h
  unfold t_Floors_init
  repeat kaf_suf
  refine r_ksfld (by kaf_pre) (Txt.cl_Floors T) (Txt.na_Floors_book T) (by decide) ?_
  repeat kaf_suf
  refine .inl ⟨false, fun tk htk => ?_⟩
  rw [if_neg Bool.false_ne_true]
  have hx1 : (upd (upd H x (.ins c.cFloors dx (putF (Str.ofString "book") (.ref b) []))) tk (NdO c.P c.w tk [])) x = some (.ins c.cFloors dx (putF (Str.ofString "book") (.ref b) [])) := get_new htk upd_same
  have ntx : tk ≠ x := ne_new htk upd_same
  have htk0 : H tk = none := none_of_upd htk
  repeat kaf_suf
  refine r_ksfld hx1 (Txt.cl_Floors T) (Txt.na_Floors_games T) (by show 1 < 1000; decide) ?_
  repeat kaf_suf
  exact k _ tk htk0 (Keep.set (M := fun a => a = x) (Keep.new (Keep.set Keep.refl rfl) htk) rfl) ⟨dx, upd_same⟩ ⟨get_set ntx upd_same, fun x h => nomatch h⟩
theorem mak_Floors {c : Cn} {mg : Str → Option Value} {base : Heap} (T : Txt c mg) : Mak c.P c.w c.K mg base CX0 1 "Floors" c.cFloors (sp_Floors_init c) := by
  obtain ⟨f, fd, F, g, b⟩ := T.F_Floors_init
  exact ⟨f, fd, ["self", "book"], g, F.ok (k := 0) (N := N_Floors_init) sc_Floors_init (fun vs H Q E h => h.1) (fun cdv A outer s H vs Q E hr h => ⟨t_Floors_init c, by
  exact (pss_cons (ps_fld (pv 0) (pv 1) rfl)
  (pss_one (ps_fld (pv 0) pe_dnew rfl))), p_Floors_init T h⟩), T.g_Floors, b⟩
theorem paired_get' {α β : Type} {R : α → β → Prop} : ∀ {xs : List α} {ys : List β} {i : Nat} {x : α}, Paired R xs ys → xs[i]? = some x → ∃ y, ys[i]? = some y ∧ R x y
  | _, _, _, _, .nil, h => by simp at h
  | _, _, 0, _, .cons r _, h => by simp at h; subst h; exact ⟨_, rfl, r⟩
  | _, _, i + 1, _, .cons _ t, h => by
    obtain ⟨y, h1, h2⟩ := paired_get' (i := i) t (by simpa using h)
    exact ⟨y, by simpa using h1, h2⟩
def bh (s : Bool) (F : Fl) : List Fl := (F.filter fun p => decide (stp s p ∈ F)).map fun p => rem F p (stp s p)
theorem bh_mv {s : Bool} {F F' : Fl} : F' ∈ bh s F ↔ Mv s F F' := by
  unfold bh Mv
  rw [List.mem_map]
  constructor
  · rintro ⟨p, hp, rfl⟩
    obtain ⟨h1, h2⟩ := List.mem_filter.mp hp
    exact ⟨p, h1, of_decide_eq_true h2, rfl⟩
  · rintro ⟨p, h1, h2, rfl⟩
    exact ⟨p, List.mem_filter.mpr ⟨h1, decide_eq_true h2⟩, rfl⟩
def dn (s : Bool) : Int := if s = true then 1 else 0
def ac (s : Bool) : Int := if s = true then 0 else 1
theorem stp_eq (s : Bool) (p : Int × Int) : stp s p = (p.1 + dn s, p.2 + ac s) := by
  cases s <;> simp [stp, dn, ac]
def sp_Floors_behind (c : Cn) : Sp := fun vs H Q E => vs.length = 4 ∧ ∃ (S a : Addr) (s : Bool) (F : Fl), vs = [.ref S, .ref a, .int (dn s), .int (ac s)] ∧ FrAt H a F ∧ F.length ≤ 24 ∧
  ∀ (H' : Hp) (r : Addr) (qs : List Addr), Keep Nil H H' → H r = none → H' r = some (.lst (qs.map V.ref)) → Paired (FrAt H') qs (bh s F) → Q (.ref r) H'
theorem p_Floors_behind {c : Cn} {mg : Str → Option Value} (T : Txt c mg) {vs : List V} {H : Hp} {Q : VK} {E : XK} (h : sp_Floors_behind c vs H Q E) : t_Floors_behind c { nx := fun _ H' => Q .non H', rt := Q } (start N_Floors_behind vs) H := by
  obtain ⟨_, S, a, s, F, rfl, ⟨xs, ea, pF⟩, few, k⟩ := h
  unfold t_Floors_behind
  repeat kaf_suf
  intro f hf
  have kf : Keep Nil H (upd H f (.lst [])) := Keep.alloc hf
  have ef : (upd H f (.lst [])) f = some (.lst []) := upd_same
  generalize upd H f (.lst []) = H0 at kf ef ⊢
  have ea0 := kf.get (fun z => z) ea
  repeat kaf_suf
  have xl := Paired.length pF
  refine for_tup (xs := xs) (fun j σ H' => ∃ (x5 x6 x7 x8 : Option V) (qs : List Addr), σ = [some (.ref S), some (.ref a), some (.int (dn s)), some (.int (ac s)), some (.ref f), x5, x6, x7, x8] ∧ Keep Nil H H' ∧ H' f = some (.lst (qs.map V.ref)) ∧ Paired (FrAt H') qs (((F.take j).filter fun p => decide (stp s p ∈ F)).map fun p => rem F p (stp s p))) ⟨_, _, _, _, [], rfl, kf, ef, .nil⟩ ?_ ?_ ?_
  · rintro j σ H' _ ⟨_, _, _, _, _, _, k1, _⟩
    exact SqT.of (k1.get (fun z => z) ea)
  rotate_left
  · rintro σ H1 ⟨x5, x6, x7, x8, qs, rfl, k1, e1, p1⟩
    rw [xl, List.take_length] at p1
    repeat kaf_suf
    exact k H1 f qs k1 hf e1 p1
  rintro j x σ H1 hx ⟨x5, x6, x7, x8, qs, rfl, k1, e1, p1⟩
  obtain ⟨p, hp, w, rfl, ew⟩ := paired_get' pF hx
  have hj := (List.getElem?_eq_some_iff.mp hp).1
  have ew1 := k1.get (fun z => z) ew
  have qsl := Paired.length p1
  have ql : qs.length ≤ 24 := by
    rw [List.length_map] at qsl
    have := List.length_filter_le (fun p => decide (stp s p ∈ F)) (F.take j)
    rw [List.length_take] at this
    omega
  have tk : (F.take (j + 1)).filter (fun p => decide (stp s p ∈ F)) = (F.take j).filter (fun p => decide (stp s p ∈ F)) ++ if stp s p ∈ F then [p] else [] := by
    rw [List.take_succ, hp, List.filter_append]
    by_cases h : stp s p ∈ F <;> simp [h]
  refine r_seqT ew1 rfl (r_gcons ?_)
  repeat kaf_suf
  intro o ho
  rw [show p.1 + dn s = (stp s p).1 by rw [stp_eq], show p.2 + ac s = (stp s p).2 by rw [stp_eq]]
  have k2 : Keep Nil H1 (upd H1 o (.tup [.int (stp s p).1, .int (stp s p).2])) := Keep.alloc ho
  have eo : (upd H1 o (.tup [.int (stp s p).1, .int (stp s p).2])) o = some (.tup [.int (stp s p).1, .int (stp s p).2]) := upd_same
  generalize upd H1 o (.tup [.int (stp s p).1, .int (stp s p).2]) = H2 at k2 eo ⊢
  have ea2 := (k1.trans k2).get (fun z => z) ea
  have e2 := k2.get (fun z => z) e1
  have k02 := k1.trans k2
  have tups : ∀ {H3 : Hp}, Keep Nil H H3 → ∀ q ys, H q = some (.tup ys) → H3 q = some (.tup ys) := fun k _ _ h => k.get (fun z => z) h
  have pF2 := paired_keep pF fun _ _ q => q.keeps (tups k02)
  have dpa : ∀ {xs : List V} {G : Fl}, Paired (PrAt H2) xs G → DpAll c.K H2 xs (G.map dP) := fun h => by
    induction h with
    | nil => exact .nil
    | cons r _ ih => exact .cons r.data ih
  have fl : ∀ G : Fl, PyData.canLayAll0 (G.map dP) = true ∧ PyData.depthAll (G.map dP) ≤ 1 := fun G => by
    induction G with
    | nil => simp [PyData.canLayAll0, PyData.depthAll]
    | cons x r ih =>
      have h1 : (dP x).canLay0 = true := by simp [dP, PyData.canLay0, PyData.canLayAll0]
      have h2 : (dP x).depth ≤ 1 := by simp [dP, PyData.depth, PyData.depthAll]
      simp only [List.map_cons, PyData.canLayAll0, PyData.depthAll, h1, ih.1, Bool.and_self, true_and]
      omega
  have anyd : ∀ (G : Fl) (q : Int × Int), ((G.map dP).any fun z => PyData.eqv z (dP q)) = decide (q ∈ G) := fun G q => by
    rw [List.any_map]
    by_cases h : q ∈ G
    · rw [decide_eq_true h]
      exact List.any_eq_true.mpr ⟨q, h, by simp [eqv_dP]⟩
    · rw [decide_eq_false h]
      refine List.any_eq_false.mpr fun y hy => ?_
      simp only [Function.comp, eqv_dP, decide_eq_true_eq]
      intro e; exact h (e ▸ hy)
  repeat kaf_suf
  refine ⟨dP (stp s p), F.map dP, PrAt.data ⟨o, rfl, eo⟩, .tup (SqT.of ea2) (dpa pF2), dP_sh _, shaped_of (by simp only [PyData.canLay0]; exact (fl F).1) (by have := (fl F).2; simp only [PyData.depth]; omega), ?_⟩
  rw [anyd]
  refine r_kB (r_ite (fun hin => ?_) (fun hin => ?_))
  rotate_left
  · rw [tk, if_neg hin, List.append_nil]
    repeat kaf_suf
    exact ⟨_, _, _, _, qs, rfl, k02, e2, paired_keep p1 fun _ _ q => q.keeps fun _ _ h => k2.get (fun z => z) h⟩
  repeat kaf_suf
  intro D hD
  have nDf : D ≠ f := ne_new hD e2
  refine lc_tup (xs := xs) (fun i H' => ∃ zs : List V, Keep Nil H2 H' ∧ H' D = some (.lst zs) ∧ Paired (PrAt H') zs (rem (F.take i) p (stp s p)) ∧ zs.length ≤ i) ⟨[], Keep.alloc hD, upd_same, .nil, Nat.le_refl _⟩ ?_ ?_ ?_
  · rintro i H' _ ⟨_, k3, _⟩
    exact SqT.of (k3.get (fun z => z) ea2)
  · rintro i x H3 hx3 ⟨zs, k3, e3, p3, zl⟩
    obtain ⟨q, hq, wq, rfl, ewq⟩ := paired_get' pF hx3
    have hi := (List.getElem?_eq_some_iff.mp hq).1
    have ewq3 := (k02.trans k3).get (fun z => z) ewq
    have eo3 := k3.get (fun z => z) eo
    have rt : rem (F.take (i + 1)) p (stp s p) = rem (F.take i) p (stp s p) ++ if q ≠ p ∧ q ≠ stp s p then [q] else [] := by
      unfold rem
      rw [List.take_succ, hq, List.filter_append]
      by_cases h1 : q = p <;> by_cases h2 : q = stp s p <;> simp [h1, h2]
    repeat kaf_suf
    refine ⟨rfl, ?_⟩
    repeat kaf_suf
    intro t ht
    have k4 : Keep Nil H3 (upd H3 t (.tup [.int p.1, .int p.2])) := Keep.alloc ht
    have et : (upd H3 t (.tup [.int p.1, .int p.2])) t = some (.tup [.int p.1, .int p.2]) := upd_same
    generalize upd H3 t (.tup [.int p.1, .int p.2]) = H4 at k4 et ⊢
    have e4 := k4.get (fun z => z) e3
    have ewq4 := k4.get (fun z => z) ewq3
    have eo4 := k4.get (fun z => z) eo3
    have p4 := paired_keep p3 fun _ _ q => q.keeps fun _ _ h => k4.get (fun z => z) h
    have pq : PrAt H4 (.ref wq) q := ⟨wq, rfl, ewq4⟩
    have pp : PrAt H4 (.ref t) p := ⟨t, rfl, et⟩
    have po : PrAt H4 (.ref o) (stp s p) := ⟨o, rfl, eo4⟩
    refine v_neD pq.data pp.data (dP_sh _) (dP_sh _) ?_
    rw [eqv_dP]
    refine r_kB (r_iteN (fun n1 => ?_) (fun n1 => ?_))
    rotate_left
    · repeat kaf_suf
      rw [rt, if_neg (show ¬ (q ≠ p ∧ q ≠ stp s p) from fun z => z.1 n1), List.append_nil]
      exact ⟨zs, k3.trans k4, e4, p4, by omega⟩
    repeat kaf_suf
    refine v_neD pq.data po.data (dP_sh _) (dP_sh _) ?_
    rw [eqv_dP]
    refine r_kB (r_iteN (fun n2 => ?_) (fun n2 => ?_))
    rotate_left
    · repeat kaf_suf
      rw [rt, if_neg (show ¬ (q ≠ p ∧ q ≠ stp s p) from fun z => z.2 n2), List.append_nil]
      exact ⟨zs, k3.trans k4, e4, p4, by omega⟩
    rw [rt, if_pos ⟨n1, n2⟩]
    repeat kaf_suf
    exact ⟨_, e4, few1 (by omega), zs ++ [.ref wq], (k3.trans k4).setN hD, upd_same, Paired.snoc (paired_keep p4 fun _ _ q => q.keeps fun _ _ h => get_set (fun z => by rw [z, e4] at h; cases h) h) ⟨wq, rfl, get_set (fun z => by rw [z, e4] at ewq4; cases ewq4) ewq4⟩, by rw [List.length_append]; show zs.length + 1 ≤ _; omega⟩
  rintro H3 ⟨zs, k3, e3, p3, zl⟩
  rw [xl, List.take_length] at p3
  have ef3 := k3.get (fun z => z) e2
  have p13 := paired_keep p1 fun _ _ q => q.keeps fun _ _ h => (k2.trans k3).get (fun z => z) h
  repeat kaf_suf
  intro r hr
  have k4 : Keep Nil H3 (upd H3 r (.tup zs)) := Keep.alloc hr
  have er : (upd H3 r (.tup zs)) r = some (.tup zs) := upd_same
  have nrf : r ≠ f := ne_new hr ef3
  generalize upd H3 r (.tup zs) = H4 at k4 er ⊢
  have ef4 := k4.get (fun z => z) ef3
  have p4 := paired_keep p3 fun _ _ q => q.keeps fun _ _ h => k4.get (fun z => z) h
  have p14 := paired_keep p13 fun _ _ q => q.keeps fun _ _ h => k4.get (fun z => z) h
  have sets : ∀ q ys, H4 q = some (.tup ys) → (upd H4 f (.lst (qs.map V.ref ++ [.ref r]))) q = some (.tup ys) := fun q ys h => get_set (fun z => by rw [z, ef4] at h; cases h) h
  repeat kaf_suf
  refine ⟨_, _, _, _, qs ++ [r], rfl, ((k02.trans k3).trans k4).setN hf, by rw [List.map_append]; exact upd_same, ?_⟩
  rw [tk, if_pos hin, List.map_append]
  exact Paired.snoc (paired_keep p14 fun _ _ q => q.keeps sets) ⟨zs, sets _ _ er, paired_keep p4 fun _ _ q => q.keeps sets⟩
theorem met_Floors_behind {c : Cn} {mg : Str → Option Value} {base : Heap} (T : Txt c mg) : Met c.P c.w c.K mg base CX0 1 c.cFloors "behind" (sp_Floors_behind c) := by
  obtain ⟨f, fd, F, g, b⟩ := T.F_Floors_behind
  exact ⟨f, fd, ["self", "free", "down", "across"], T.cl_Floors, g, F.ok (k := 0) (N := N_Floors_behind) sc_Floors_behind (fun vs H Q E h => h.1) (fun cdv A outer s H vs Q E hr h => ⟨t_Floors_behind c, by
  exact (pss_cons (ps_set (i := 4) sc_Floors_behind.nd rfl (Or.inl rfl) (pe_lst pa_nil))
  (pss_cons (ps_for PassesOwn.never rfl (pi_any (pv 1)) (g_seq rfl (pgs_cons (pg_name (i := 5) sc_Floors_behind.nd rfl (Or.inr rfl)) (pgs_cons (pg_name (i := 6) sc_Floors_behind.nd rfl (Or.inr rfl)) pgs_nil)))
  (pss_cons (ps_set (i := 7) sc_Floors_behind.nd rfl (Or.inr rfl) (pe_tup (pa_cons (pe_op o_add (pv 5) (pv 2)) (pa_cons (pe_op o_add (pv 6) (pv 3)) pa_nil))))
  (pss_one (ps_if (pt_cmpR (o_inT (hu65 hr)) (pv 7) (pv 1) (by rfl)) (pss_one (ps_expr (pe_bm PySem.F.plainAttrs_list PySem.F.slot_list_append PySem.F.type_list_append mt_append (pv 4) (pa_cons (pe_callTy k_tuple (by rfl) T.n_tuple (by decide +kernel) (pa_cons (pe_lc (own := [("place", 8)]) rfl sc_Floors_behind.nd (pi_any (pv 1)) (blkOk_by (own := [("place", 8)]) (N := N_Floors_behind) (sc := defScope s_Floors_behind) (by decide +kernel)) (fun _ _ _ _ _ => (pg_name (i := 8) sc_Floors_behind.nd rfl (Or.inl rfl))) (fun _ _ _ _ _ => (pts_one (PW.pt (pw_and (pt_cmpR (o_ne (hu64 hr)) (pv 8) (pe_tup (pa_cons (pv 5) (pa_cons (pv 6) pa_nil))) (nomark _)) (pw_and1 (pt_cmpR (o_ne (hu64 hr)) (pv 8) (pv 7) (nomark _))))))) (fun _ _ _ _ _ => (pv 8))) pa_nil)) pa_nil)))) pss_nil))))
  (pss_one (ps_ret (pv 4))))), p_Floors_behind T h⟩), b⟩

/-! what a walk over floors knows: a dict keyed by free places -/
def pkey (p : Int × Int) : NestedKey := .tup [.num p.1, .num p.2]
def fkey (F : Fl) : NestedKey := .tup (F.map pkey)
theorem pkey_inj {p q : Int × Int} (h : pkey p = pkey q) : p = q := by
  unfold pkey at h
  injection h with h
  injection h with h1 h
  injection h with h2 _
  injection h1 with h1
  injection h2 with h2
  exact Prod.ext h1 h2
theorem map_pkey_inj : ∀ {F G : Fl}, F.map pkey = G.map pkey → F = G
  | [], [], _ => rfl
  | [], _ :: _, h => by cases h
  | _ :: _, [], h => by cases h
  | p :: F, q :: G, h => by
    injection h with h1 h2
    rw [pkey_inj h1, map_pkey_inj h2]
theorem fkey_inj {F G : Fl} (h : fkey F = fkey G) : F = G := by
  unfold fkey at h
  injection h with h
  exact map_pkey_inj h
theorem pkey_nk {H : Hp} {x : V} {p : Int × Int} (h : PrAt H x p) : NkV H (pkey p) x := by
  obtain ⟨a, rfl, e⟩ := h
  unfold pkey
  simp only [NkV]
  refine ⟨a, _, rfl, e, ?_⟩
  simp only [NkVs, NkV]
  exact ⟨_, _, rfl, .inl rfl, _, _, rfl, .inl rfl, rfl⟩
theorem nkvs_of {H : Hp} : ∀ {xs : List V} {F : Fl}, Paired (PrAt H) xs F → NkVs H (F.map pkey) xs
  | _, _, .nil => by simp [NkVs]
  | _, _, .cons r t => by
    simp only [List.map_cons, NkVs]
    exact ⟨_, _, rfl, pkey_nk r, nkvs_of t⟩
theorem fkey_nk {H : Hp} {a : Addr} {F : Fl} (h : FrAt H a F) : NkV H (fkey F) (.ref a) := by
  obtain ⟨xs, e, p⟩ := h
  unfold fkey
  simp only [NkV]
  exact ⟨a, xs, rfl, e, nkvs_of p⟩
structure KnT (c : Cn) (H : Hp) (d : Addr) (gs : List Gm) (F0 : Fl) (xs : List NX) : Prop where
  N : NdAt c.P c.w H d xs
  ok : ∀ x ∈ xs, ∃ (F : Fl) (g : Nat), x.1 = fkey F ∧ x.2.2 = .int g ∧ SG gs F g ∧ F.Sublist F0
  nd : (xs.map (·.1)).Nodup
theorem KnT.few {c : Cn} {H : Hp} {d : Addr} {gs : List Gm} {F0 : Fl} {xs : List NX} (K : KnT c H d gs F0 xs) : xs.length ≤ 2 ^ F0.length := by
  have := nodup_le (xs.map (·.1)) ((allF F0).map fkey) K.nd fun k hk => by
    obtain ⟨x, hx, rfl⟩ := List.mem_map.mp hk
    obtain ⟨F, g, e, _, _, s⟩ := K.ok x hx
    exact List.mem_map.mpr ⟨F, allF_mem s, e.symm⟩
  rw [List.length_map, List.length_map, allF_len] at this
  exact this
theorem fkey_depth (F : Fl) : (fkey F).depth ≤ 8 := by
  have h : ∀ F : Fl, NestedKey.depthAll (F.map pkey) ≤ 3 := fun F => by
    induction F with
    | nil => simp [NestedKey.depthAll]
    | cons p r ih =>
      have : (pkey p).depth ≤ 3 := by
        unfold pkey
        simp only [NestedKey.depth, NestedKey.depthAll]; omega
      simp only [List.map_cons, NestedKey.depthAll]
      omega
  have := h F
  unfold fkey
  simp only [NestedKey.depth]
  omega
theorem KnT.nil {c : Cn} {H : Hp} {d : Addr} {gs : List Gm} {F0 : Fl} (N : NdAt c.P c.w H d []) : KnT c H d gs F0 [] := ⟨N, fun x h => (nomatch h), List.nodup_nil⟩
theorem KnT.more {c : Cn} {H : Hp} {d : Addr} {gs f : List Gm} {F0 : Fl} {xs : List NX} (K : KnT c H d gs F0 xs) : KnT c H d (gs ++ f) F0 xs := ⟨K.N, fun x hx => by
  obtain ⟨F, g, a, b, s, t⟩ := K.ok x hx
  exact ⟨F, g, a, b, s.more, t⟩, K.nd⟩
theorem KnT.keep {c : Cn} {H H' : Hp} {d : Addr} {gs : List Gm} {F0 : Fl} {xs : List NX} (K : KnT c H d gs F0 xs) (ha : H' d = H d) (ht : ∀ b ys, H b = some (.tup ys) → H' b = some (.tup ys)) : KnT c H' d gs F0 xs := ⟨K.N.keep ha ht, K.ok, K.nd⟩
theorem KnT.ix {c : Cn} {H : Hp} {d a : Addr} {gs : List Gm} {F0 F : Fl} {xs : List NX} {Q : VK} (K : KnT c H d gs F0 xs) (fa : FrAt H a F) (h : (nval xs (fkey F)).isSome = true) (k : ∀ g : Nat, SG gs F g → Q (.int g) H) : bIx c.P c.w c.K (.ref d) (.ref a) H Q := by
  obtain ⟨v, hv⟩ := Option.isSome_iff_exists.mp h
  obtain ⟨x, hx, e1, e2⟩ := nval_mem hv
  obtain ⟨G, g, e3, e4, s, _⟩ := K.ok x hx
  have : F = G := fkey_inj (e1.symm.trans e3)
  subst this
  have ev : v = .int g := e2.symm.trans e4
  subst ev
  exact .inr (.inr (.inr (.inr ⟨d, a, fkey F, xs, _, rfl, rfl, K.N, fkey_nk fa, fkey_depth F, hv, k g s⟩)))
theorem KnT.nin {c : Cn} {H : Hp} {d a : Addr} {gs : List Gm} {F0 F : Fl} {xs : List NX} {Q : VK} (K : KnT c H d gs F0 xs) (fa : FrAt H a F) (k : Q (.bl (!(nval xs (fkey F)).isSome)) H) : cNotIn c.P c.w c.K (.ref a) (.ref d) H Q :=
  .inr (.inr (.inr (.inr ⟨d, a, fkey F, xs, rfl, rfl, K.N, fkey_nk fa, fkey_depth F, by simpa using k⟩)))
theorem KnT.set {c : Cn} {H : Hp} {d a : Addr} {gs : List Gm} {F0 F : Fl} {xs : List NX} {g : Nat} {R : Hp → Prop} (K : KnT c H d gs F0 xs) (fa : FrAt H a F) (s : SG gs F g) (sub : F.Sublist F0) (l : F0.length ≤ 12)
    (k : ∀ (H' : Hp) (xs' : List NX), Keep (fun x => x = d) H H' → KnT c H' d gs F0 xs' → (nval xs' (fkey F)).isSome = true → R H') : bSet c.P c.w (.ref d) (.ref a) (.int g) H R := by
  have few := K.few
  have p2 : 2 ^ F0.length ≤ 2 ^ 12 := Nat.pow_le_pow_right (by decide) l
  have e : (∀ x ∈ nput xs (fkey F) a (.int g), x ∈ xs ∨ (x.1 = fkey F ∧ x.2.2 = .int g)) ∧ ((nput xs (fkey F) a (.int g)).map (·.1)).Nodup := by
    unfold nput
    cases hk : (nval xs (fkey F)).isSome with
    | true =>
      rw [if_pos rfl]
      refine ⟨fun x hx => ?_, ?_⟩
      · obtain ⟨y, hy, rfl⟩ := List.mem_map.mp hx
        by_cases z : y.1 = fkey F
        · rw [if_pos z]; exact .inr ⟨z, rfl⟩
        · rw [if_neg z]; exact .inl hy
      · rw [List.map_map, show xs.map ((fun x : NX => x.1) ∘ fun x => if x.1 = fkey F then (x.1, x.2.1, V.int g) else x) = xs.map (·.1) from List.map_congr_left fun x _ => by
          simp only [Function.comp]
          split <;> rfl]
        exact K.nd
    | false =>
      rw [if_neg Bool.false_ne_true]
      have nn : ∀ x ∈ xs, x.1 ≠ fkey F := by
        cases h : nval xs (fkey F) with
        | none => exact nval_none h
        | some v => rw [h] at hk; cases hk
      refine ⟨fun x hx => ?_, ?_⟩
      · rcases List.mem_append.mp hx with hx | hx
        · exact .inl hx
        · rw [List.mem_singleton] at hx
          subst hx
          exact .inr ⟨rfl, rfl⟩
      · rw [List.map_append]
        refine List.nodup_append.mpr ⟨K.nd, List.nodup_cons.mpr ⟨List.not_mem_nil, List.nodup_nil⟩, fun y hy z hz => ?_⟩
        rw [List.map_singleton, List.mem_singleton] at hz
        obtain ⟨x, hx, rfl⟩ := List.mem_map.mp hy
        rw [hz]
        exact nn x hx
  have h4 := K.N.here
  have keepT : ∀ b ys, H b = some (.tup ys) → (upd H d (NdO c.P c.w d (nput xs (fkey F) a (.int g)))) b = some (.tup ys) := fun b ys h => get_set (fun z => by
    rw [z, h4] at h
    unfold NdO at h
    cases h) h
  refine .inr (.inr ⟨d, a, fkey F, xs, rfl, rfl, K.N, fkey_nk fa, fkey_depth F, by rw [sizeLine_eq]; omega, k _ (nput xs (fkey F) a (.int g)) (Keep.refl.set rfl) ⟨⟨upd_same, fun x hx => ?_⟩, fun x hx => ?_, ?_⟩ (by rw [nval_nput]; rfl)⟩)
  · have := nput_keys (v := .int g) K.N.keys (fkey_nk fa) (fkey_depth F) x hx
    exact ⟨NkV.keeps keepT _ _ this.1, this.2⟩
  · rcases e.1 x hx with hx | ⟨h1, h2⟩
    · exact K.ok x hx
    · exact ⟨F, g, h1, h2, s, sub⟩
  · exact e.2

def MD (M : Addr → Prop) (d : Addr) : Addr → Prop := fun x => M x ∨ x = d
section
variable {c : Cn} {H H' : Hp} {b d S l : Addr} {M : Addr → Prop} {gs gs' : List Gm} {ds : List Int} {F0 : Fl} {xs : List NX}
theorem KnT.here (K : KnT c H d gs' F0 xs) : ∃ φ, H d = some (.ext φ) := ⟨_, K.N.here⟩
theorem MD.tups (B : BookAt c H b M gs ds) (K : KnT c H d gs' F0 xs) (k : Keep (MD M d) H H') : ∀ p ys, H p = some (.tup ys) → H' p = some (.tup ys) := fun p ys h => k p _ (fun z => z.elim (fun z => B.tupN h z) fun z => by
  obtain ⟨φ, e⟩ := K.here
  rw [z, e] at h; cases h) h
theorem MD.lst {ys : List V} (K : KnT c H d gs' F0 xs) (nl : ¬ M l) (e : H l = some (.lst ys)) (k : Keep (MD M d) H H') : H' l = some (.lst ys) := k.get (fun z => z.elim nl fun z => by
  obtain ⟨φ, e'⟩ := K.here
  rw [z, e'] at e; cases e) e
theorem FlrAt.keep (s : FlrAt c H S b d) (B : BookAt c H b M gs ds) (K : KnT c H d gs' F0 xs) (k : Keep (MD M d) H H') : FlrAt c H' S b d := by
  obtain ⟨dx, e⟩ := s
  exact ⟨dx, k.get (fun z => z.elim (fun z => B.insN e z) fun z => by
    obtain ⟨φ, e'⟩ := K.here
    rw [z, e'] at e; cases e) e⟩
theorem FlrAt.same (s : FlrAt c H S b d) (k : Keep Nil H H') : FlrAt c H' S b d := by
  obtain ⟨dx, e⟩ := s
  exact ⟨dx, k.get (fun z => z) e⟩
theorem KnT.same (K : KnT c H d gs' F0 xs) (k : Keep Nil H H') : KnT c H' d gs' F0 xs := K.keep ((k.get (fun z => z) K.N.here).trans K.N.here.symm) fun _ _ h => k.get (fun z => z) h
theorem KnT.ne {D : Addr} (K : KnT c H d gs' F0 xs) (hD : H D = none) : ¬ d = D := fun z => by
  obtain ⟨φ, e⟩ := K.here
  rw [z, hD] at e; cases e
theorem KnT.nM (K : KnT c H d gs' F0 xs) (B : BookAt c H b M gs ds) : True := trivial
end
def sp_Floors_game (n : Nat) (c : Cn) : Sp := fun vs H Q E => vs.length = 2 ∧ ∃ (S b d a : Addr) (M : Addr → Prop) (gs : List Gm) (ds : List Int) (F0 F : Fl) (n0 : Nat) (xs : List NX), vs = [.ref S, .ref a] ∧ FlrAt c H S b d ∧ ¬ M d ∧ BookAt c H b M gs ds ∧ KnT c H d gs F0 xs ∧ InvF F0 n0 gs ∧ FrAt H a F ∧ F.Sublist F0 ∧ F0.length ≤ 10 ∧ n0 ≤ 40000 ∧ F.length < n ∧
  ∀ (H' : Hp) (f : List Gm) (e : List Int) (xs' : List NX) (g : Nat), Keep (MD M d) H H' → BookAt c H' b M (gs ++ f) (ds ++ e) → KnT c H' d (gs ++ f) F0 xs' → InvF F0 n0 (gs ++ f) → SG (gs ++ f) F g → Q (.int g) H'
theorem z_Floors_game {c : Cn} {vs : List V} {H : Hp} {Q : VK} {E : XK} (h : sp_Floors_game 0 c vs H Q E) : False := by
  obtain ⟨_, S, b, d, a, M, gs, ds, F0, F, n0, xs, _, _, _, _, _, _, _, _, _, _, lt, _⟩ := h
  omega
theorem fgames_lc {n : Nat} {c : Cn} {mg : Str → Option Value} (T : Txt c mg) {S b d p : Addr} {M : Addr → Prop} {gs : List Gm} {ds : List Int} {v : V} {F0 F : Fl} {n0 : Nat} {xs : List NX} {s : Bool} {qs : List Addr} {x2 x3 x4 : Option V} {H : Hp} {Q : VK}
    (St : FlrAt c H S b d) (dM : ¬ M d) (B : BookAt c H b M gs ds) (K : KnT c H d gs F0 xs) (I : InvF F0 n0 gs) (sub : F.Sublist F0) (l10 : F0.length ≤ 10) (n8 : n0 ≤ 40000) (ml : F.length ≤ n) (ep : H p = some (.lst (qs.map V.ref))) (np : ¬ M p) (pq : Paired (FrAt H) qs (bh s F))
    (k : ∀ (H' : Hp) (f : List Gm) (e : List Int) (xs' : List NX) (q : Addr) (ms : List Int), Keep (MD M d) H H' → BookAt c H' b M (gs ++ f) (ds ++ e) → KnT c H' d (gs ++ f) F0 xs' → InvF F0 n0 (gs ++ f) → H q = none → H' q = some (.lst (ms.map V.int)) → ms.length ≤ 10 → MsS (gs ++ f) s F ms → Q (.ref q) H') :
    kLc (Itl c.K p) (gName 4) tYes (tMeth c.cFloors "game" (sp_Floors_game n c) [] E0 (tVar 0) (tCons (tVar 4) tNil)) [4] [some (.ref S), some v, x2, x3, x4] H Q := by
  intro D hD
  have nD : ¬ M D := B.new hD
  have dD := K.ne hD
  have bl : (bh s F).length ≤ 10 := by
    unfold bh
    rw [List.length_map]
    exact Nat.le_trans (List.length_filter_le _ _) (Nat.le_trans sub.length_le l10)
  refine lc_list (xs := qs.map V.ref) (fun j H' => ∃ (f : List Gm) (e : List Int) (xs' : List NX) (ms : List Int), Keep (MD M d) H H' ∧ FlrAt c H' S b d ∧ BookAt c H' b M (gs ++ f) (ds ++ e) ∧ KnT c H' d (gs ++ f) F0 xs' ∧ InvF F0 n0 (gs ++ f) ∧ H' D = some (.lst (ms.map V.int)) ∧ Paired (fun m x => ∃ g : Nat, m = (g : Int) ∧ SG (gs ++ f) x g) ms ((bh s F).take j)) ⟨[], [], xs, [], Keep.alloc hD, St.same (Keep.alloc hD), by rw [List.append_nil, List.append_nil]; exact B.same (Keep.alloc hD), by rw [List.append_nil]; exact K.same (Keep.alloc hD), by rw [List.append_nil]; exact I, upd_same, .nil⟩ ?_ ?_ ?_
  · rintro j H' _ ⟨_, _, _, _, k1, _⟩
    exact SqL.of (MD.lst K np ep k1)
  · rintro j x H1 hj ⟨f, e, xs1, ms, k1, S1, B1, K1, I1, eD, pm⟩
    rw [List.getElem?_map] at hj
    obtain ⟨q, hjq, rfl⟩ := Option.map_eq_some_iff.mp hj
    obtain ⟨G, hG, fq⟩ := paired_get' pq hjq
    have mv := bh_mv.mp (List.mem_of_getElem? hG)
    have less := mv.less
    have pl := Paired.length pm
    have hjl := (List.getElem?_eq_some_iff.mp hG).1
    rw [List.length_take] at pl
    have fq1 := fq.keeps (MD.tups B K k1)
    obtain ⟨dxs, es⟩ := id S1
    repeat kaf_suf
    refine ⟨rfl, ?_⟩
    repeat kaf_suf
    refine ⟨rfl, S, b, d, q, M, _, _, F0, G, n0, xs1, rfl, S1, dM, B1, K1, I1, fq1, mv.sub.trans sub, l10, n8, by omega, fun H2 f2 e2 xs2 g2 k2 B2 K2 I2 sg => ?_⟩
    have eD2 := MD.lst K1 nD eD k2
    have S2 := S1.keep B1 K1 k2
    repeat kaf_suf
    have kD : Keep (fun y => y = D) H2 (upd H2 D (.lst (ms.map V.int ++ [.int g2]))) := Keep.refl.set rfl
    have tD : ∀ p ys, H2 p = some (.tup ys) → (upd H2 D (.lst (ms.map V.int ++ [.int g2]))) p = some (.tup ys) := fun p ys h => get_set (fun z => by rw [z, eD2] at h; cases h) h
    refine ⟨ms.map V.int, eD2, few1 (by rw [List.length_map]; omega), f ++ f2, e ++ e2, xs2, ms ++ [(g2 : Int)], (k1.trans k2).setN hD, ?_, ?_, ?_, ?_, by rw [List.map_append]; exact upd_same, ?_⟩
    · obtain ⟨dx, e⟩ := S2
      exact ⟨dx, get_set (fun z => by rw [← z, e] at eD2; cases eD2) e⟩
    · rw [← List.append_assoc, ← List.append_assoc]
      exact B2.keep kD (fun x z => by cases z; exact ⟨_, eD2⟩) fun x m z => nD (z ▸ m)
    · rw [← List.append_assoc]
      exact K2.keep (upd_ne dD) tD
    · rw [← List.append_assoc]; exact I2
    · rw [List.take_succ, hG, ← List.append_assoc]
      exact Paired.snoc (paired_keep pm fun m x ⟨g, e, h⟩ => ⟨g, e, h.more⟩) ⟨g2, rfl, sg⟩
  · rintro H' ⟨f, e, xs1, ms, k1, S1, B1, K1, I1, eD, pm⟩
    have ql := Paired.length pq
    rw [List.length_map, ql, List.take_length] at pm
    refine k _ f e xs1 D ms k1 B1 K1 I1 hD eD (by rw [Paired.length pm]; exact bl) ⟨fun x mv => ?_, fun z hz => ?_⟩
    · obtain ⟨i, hi, ei⟩ := List.getElem_of_mem (bh_mv.mpr mv)
      obtain ⟨m, hm, g, rfl, sg⟩ := paired_get pm (show (bh s F)[i]? = some x by rw [List.getElem?_eq_getElem hi, ei])
      exact ⟨g, List.mem_of_getElem? hm, sg⟩
    · obtain ⟨i, hi, ei⟩ := List.getElem_of_mem hz
      obtain ⟨x, hx', g, rfl, sg⟩ := paired_get' pm (show ms[i]? = some z by rw [List.getElem?_eq_getElem hi, ei])
      exact ⟨x, g, bh_mv.mp (List.mem_of_getElem? hx'), rfl, sg⟩

abbrev N_Floors_game : List Str := ["self", "free", "lefts", "rights", "one"]
theorem sc_Floors_game : FnScope N_Floors_game ["self", "free"] (defScope s_Floors_game) := ⟨rfl, rfl, rfl, by decide +kernel, rfl, by decide +kernel, by decide +kernel⟩
def t_Floors_game (n : Nat) (c : Cn) : TS :=
  (C8.tCut (tIfS (tTest (tOp (cNotIn c.P c.w c.K) (tVar 1) (tFld c.K (tVar 0) "games")))
  (tSeq (tAsg (tLc (iAny c.K (tMeth c.cFloors "behind" (sp_Floors_behind c) [] E0 (tVar 0) (tCons (tVar 1) (tCons (tC (.int 1)) (tCons (tC (.int 0)) tNil))))) (gName 4) tYes (tMeth c.cFloors "game" (sp_Floors_game n c) [] E0 (tVar 0) (tCons (tVar 4) tNil)) [4]) (gName 2))
  (tSeq (tAsg (tLc (iAny c.K (tMeth c.cFloors "behind" (sp_Floors_behind c) [] E0 (tVar 0) (tCons (tVar 1) (tCons (tC (.int 0)) (tCons (tC (.int 1)) tNil))))) (gName 4) tYes (tMeth c.cFloors "game" (sp_Floors_game n c) [] E0 (tVar 0) (tCons (tVar 4) tNil)) [4]) (gName 3))
  (tAsg (tMeth c.cBook "game" (sp_Book_game c) [] E0 (tFld c.K (tVar 0) "book") (tCons (tVar 2) (tCons (tVar 3) tNil))) (gSub (tFld c.K (tVar 0) "games") (tVar 1) (bSet c.P c.w)))))
  tNext)
  (tRet (tOp (bIx c.P c.w c.K) (tFld c.K (tVar 0) "games") (tVar 1))))
theorem p_Floors_game {n : Nat} {c : Cn} {mg : Str → Option Value} (T : Txt c mg) {vs : List V} {H : Hp} {Q : VK} {E : XK} (h : sp_Floors_game (n + 1) c vs H Q E) : t_Floors_game n c { nx := fun _ H' => Q .non H', rt := Q } (start N_Floors_game vs) H := by
  obtain ⟨_, S, b, d, a, M, gs, ds, F0, F, n0, xs, rfl, St, dM, B, K, I, fa, sub, l10, n8, ml, k⟩ := h
  obtain ⟨dxs, es⟩ := id St
  have fl10 : F.length ≤ 10 := Nat.le_trans sub.length_le l10
  unfold t_Floors_game
  refine ⟨fun σ H' => ∃ (x2 x3 x4 : Option V) (f : List Gm) (e : List Int) (xs' : List NX), σ = [some (.ref S), some (.ref a), x2, x3, x4] ∧ Keep (MD M d) H H' ∧ FlrAt c H' S b d ∧ FrAt H' a F ∧ BookAt c H' b M (gs ++ f) (ds ++ e) ∧ KnT c H' d (gs ++ f) F0 xs' ∧ InvF F0 n0 (gs ++ f) ∧ (nval xs' (fkey F)).isSome = true, ?_, ?_⟩
  rotate_left
  · rintro σ H' ⟨x2, x3, x4, f, e, xs', rfl, k1, S1, fa1, B1, K1, I1, hl⟩
    obtain ⟨dx1, es1⟩ := id S1
    repeat kaf_suf
    refine K1.ix fa1 hl fun g sg => ?_
    exact k H' f e xs' g k1 B1 K1 I1 sg
  repeat kaf_suf
  refine K.nin fa ?_
  repeat kaf_suf
  cases hk : (nval xs (fkey F)).isSome with
  | true =>
    repeat kaf_suf
    exact ⟨_, _, _, [], [], xs, rfl, Keep.refl, St, fa, by rw [List.append_nil, List.append_nil]; exact B, by rw [List.append_nil]; exact K, by rw [List.append_nil]; exact I, hk⟩
  | false =>
    repeat kaf_suf
    refine ⟨rfl, S, a, true, F, rfl, fa, by omega, fun H1 p1 qs k1 hp1 ep1 pq1 => ?_⟩
    have np1 := B.new hp1
    have K1 := K.same k1
    have B1 := B.same k1
    have S1 := St.same k1
    have fa1 := fa.keeps fun _ _ h => k1.get (fun z => z) h
    have dp1 := K.ne hp1
    repeat kaf_suf
    refine fgames_lc T (s := true) (F := F) S1 dM B1 K1 I sub l10 n8 (Nat.le_of_lt_succ ml) ep1 np1 pq1 fun H2 f2 e2 xs2 q2 ms2 k2 B2 K2 I2 hq2 eq2 m2 M2 => ?_
    have S2 := S1.keep B1 K1 k2
    have fa2 := fa1.keeps (MD.tups B1 K1 k2)
    have K12 := k1.weak.trans k2
    have nq2 : ¬ M q2 := B1.new hq2
    obtain ⟨dx2, es2⟩ := id S2
    repeat kaf_suf
    refine ⟨rfl, S, a, false, F, rfl, fa2, by omega, fun H3 p3 qs3 k3 hp3 ep3 pq3 => ?_⟩
    have np3 := B2.new hp3
    have K3 := K2.same k3
    have B3 := B2.same k3
    have S3 := S2.same k3
    have fa3 := fa2.keeps fun _ _ h => k3.get (fun z => z) h
    have eq3 := k3.get (fun z => z) eq2
    repeat kaf_suf
    refine fgames_lc T (s := false) (F := F) S3 dM B3 K3 I2 sub l10 n8 (Nat.le_of_lt_succ ml) ep3 np3 pq3 fun H4 f4 e4 xs4 q4 ms4 k4 B4 K4 I4 hq4 eq4 m4 M4 => ?_
    have S4 := S3.keep B3 K3 k4
    have fa4 := fa3.keeps (MD.tups B3 K3 k4)
    have eq24 := MD.lst K3 nq2 eq3 k4
    have nq4 : ¬ M q4 := B3.new hq4
    have K14 := K12.trans (k3.weak.trans k4)
    have few := I4.few
    have p210 : 2 ^ F0.length ≤ 2 ^ 10 := Nat.pow_le_pow_right (by decide) l10
    have M2' : MsS (gs ++ f2 ++ f4) true F ms2 := M2.more
    have rg : ∀ m ∈ ms2 ++ ms4, 0 ≤ m ∧ m < ((gs ++ f2 ++ f4).length : Int) := fun m hm => by
      rcases List.mem_append.mp hm with hm | hm
      · obtain ⟨x, h, _, rfl, sg⟩ := M2'.2 m hm
        have := sg.lt
        omega
      · obtain ⟨x, h, _, rfl, sg⟩ := M4.2 m hm
        have := sg.lt
        omega
    obtain ⟨I5, sg5⟩ := inv_add B4.ok I4 sub M2' M4
    obtain ⟨f5, ef5, _⟩ := addG_grow (gs := gs ++ f2 ++ f4) (k := (canon ms2, canon ms4))
    obtain ⟨dx4, es4⟩ := id S4
    obtain ⟨bx, bm, bn, bd, hb4⟩ := B4.ins_
    repeat kaf_suf
    refine ⟨rfl, b, q2, q4, M, _, _, ms2, ms4, rfl, B4, eq24, eq4, nq2, nq4, by omega, by omega, by omega, rg, fun H5 e5 k5 B5 => ?_⟩
    rw [ef5] at B5 I5 sg5 ⊢
    have k5' : Keep (MD M d) H4 H5 := k5.mono fun _ z => .inl z
    have K5 := (K4.keep ((k5 _ _ dM K4.N.here).trans K4.N.here.symm) (MD.tups B4 K4 k5')).more (f := f5)
    have S5 := S4.keep B4 K4 k5'
    have fa5 := fa4.keeps (MD.tups B4 K4 k5')
    obtain ⟨dx5, es5⟩ := id S5
    repeat kaf_suf
    refine K5.set fa5 sg5 sub (by omega) fun H6 xs6 kd K6 hk6 => ?_
    have kd' : Keep (MD M d) H5 H6 := kd.mono fun _ z => .inr z
    have B6 := B5.keepY kd (fun x z => by
      cases z
      obtain ⟨φ, e⟩ := K5.here
      rw [e]
      exact ⟨fun l z => (by cases z), fun C d l z => (by cases z)⟩) fun x m z => dM (z ▸ m)
    have S6 := S5.keep B5 K5 kd'
    have fa6 := fa5.keeps (MD.tups B5 K5 kd')
    have KK : Keep (MD M d) H H6 := (K14.trans k5').trans kd'
    rw [List.append_assoc, List.append_assoc, List.append_assoc, List.append_assoc] at B6
    rw [List.append_assoc, List.append_assoc] at K6 I5
    exact ⟨_, _, _, f2 ++ (f4 ++ f5), _, _, rfl, KK, S6, fa6, B6, K6, I5, hk6⟩
theorem met_Floors_game {c : Cn} {mg : Str → Option Value} {base : Heap} (T : Txt c mg) : ∀ n : Nat, Met c.P c.w c.K mg base CX0 (5 + n) c.cFloors "game" (sp_Floors_game n c)
  | 0 => by
    obtain ⟨f, fd, F, g, b⟩ := T.F_Floors_game
    exact ⟨f, fd, ["self", "free"], T.cl_Floors, g, F.ok (k := 4) (N := N_Floors_game) sc_Floors_game (fun vs H Q E h => (z_Floors_game h).elim) (fun cdv A outer s H vs Q E hr h => (z_Floors_game h).elim), b⟩
  | n + 1 => by
    obtain ⟨f, fd, F, g, b⟩ := T.F_Floors_game
    exact ⟨f, fd, ["self", "free"], T.cl_Floors, g, F.ok (k := 5 + n) (N := N_Floors_game) sc_Floors_game (fun vs H Q E h => h.1) (fun cdv A outer s H vs Q E hr h => ⟨t_Floors_game n c, by
  exact (C8.pss_cut (ps_if (pt_cmpR (o_notin (hu65 hr)) (pv 1) (pe_fld (pv 0) rfl) (by rfl)) (pss_cons (ps_setLc (i := 2) (own := [("one", 4)]) rfl sc_Floors_game.nd rfl rfl (sw_true rfl rfl rfl (by decide +kernel)) (pi_any (e_meth (met_Floors_behind T) hr (by omega) pass0 (pv 0) (pa_cons (pv 1) (pa_cons pe_int (pa_cons pe_int pa_nil))))) (blkOk_by (own := [("one", 4)]) (N := N_Floors_game) (sc := defScope s_Floors_game) (by decide +kernel)) (fun _ _ _ _ _ => (pg_name (i := 4) sc_Floors_game.nd rfl (Or.inl rfl))) (fun _ _ _ _ _ => pts_nil) (fun _ _ _ _ _ => (e_meth (met_Floors_game T n) hr (by omega) pass0 (pv 0) (pa_cons (pv 4) pa_nil))))
  (pss_cons (ps_setLc (i := 3) (own := [("one", 4)]) rfl sc_Floors_game.nd rfl rfl (sw_true rfl rfl rfl (by decide +kernel)) (pi_any (e_meth (met_Floors_behind T) hr (by omega) pass0 (pv 0) (pa_cons (pv 1) (pa_cons pe_int (pa_cons pe_int pa_nil))))) (blkOk_by (own := [("one", 4)]) (N := N_Floors_game) (sc := defScope s_Floors_game) (by decide +kernel)) (fun _ _ _ _ _ => (pg_name (i := 4) sc_Floors_game.nd rfl (Or.inl rfl))) (fun _ _ _ _ _ => pts_nil) (fun _ _ _ _ _ => (e_meth (met_Floors_game T n) hr (by omega) pass0 (pv 0) (pa_cons (pv 4) pa_nil))))
  (pss_one (ps_asg (e_meth (met_Book_game T) hr (by omega) pass0 (pe_fld (pv 0) rfl) (pa_cons (pv 2) (pa_cons (pv 3) pa_nil))) (pg_sub (pe_fld (pv 0) rfl) (pv 1) (s_set (hu64 hr))))))) pss_nil)
  (pss_one (ps_ret (pe_ix (x_ix (hu64 hr)) (pe_fld (pv 0) rfl) (pv 1) (fun _ _ => rfl))))), p_Floors_game T h⟩), b⟩

/-! texts of signs: helpers -/
theorem T1_inj {a b : Nat} (h : T1 a = T1 b) : a = b := by
  have := tS_inj (l := [a]) (m := [b]) h
  simpa using this
theorem T1_dec (a b : Nat) : decide (T1 a = T1 b) = decide (a = b) := by
  by_cases h : a = b
  · rw [h, decide_eq_true rfl, decide_eq_true rfl]
  · rw [decide_eq_false h, decide_eq_false fun z => h (T1_inj z)]
theorem atI_getG {α : Type} {xs : List α} {i : Int} {v : α} {n : Nat} (h : xs[n]? = some v) (e : i = n) : atI xs i = some v := by
  subst e
  have hn : n < xs.length := (List.getElem?_eq_some_iff.mp h).1
  unfold atI ixN
  rw [if_pos (Int.natCast_nonneg n), if_pos (by omega)]
  simpa using h
theorem join_signs (x : List Nat) : Txt.join "" ((x.map T1)) = tS x := by
  have h := SX.join_S [] (x.map fun c => [c])
  rw [List.map_map] at h
  have e : (SX.S ∘ fun c => [c]) = T1 := rfl
  rw [e] at h
  have j : ∀ x : List Nat, TL.joinL [] (x.map fun c => [c]) = x := fun x => by
    induction x with
    | nil => rfl
    | cons a r ih =>
      cases r with
      | nil => rfl
      | cons b q =>
        show [a] ++ ([] ++ TL.joinL [] ((b :: q).map fun c => [c])) = _
        rw [ih]; rfl
  rw [j] at h
  exact h
theorem join_len (x : List Nat) : (((x.map T1)).map (·.length)).sum + (x.map T1).length * ("" : Str).length = x.length := by
  have e : ("" : Str).length = 0 := rfl
  rw [e, Nat.mul_zero, Nat.add_zero, List.map_map]
  induction x with
  | nil => rfl
  | cons a r ih =>
    rw [List.map_cons, List.sum_cons, ih, List.length_cons]
    show 1 + r.length = _
    omega
theorem foldl_reps (x : Nat) : ∀ (k : Nat) (acc : Array Nat), ((List.replicate k #[x]).foldl (· ++ ·) acc) = (acc.toList ++ List.replicate k x).toArray
  | 0, acc => by simp
  | k + 1, acc => by
    rw [List.replicate_succ, List.foldl_cons, foldl_reps x k]
    simp [List.replicate_succ]
theorem mul_rep (x : Nat) {n : Int} (h : 0 ≤ n) : Txt.mul (T1 x) n = tS (List.replicate n.toNat x) := by
  obtain ⟨k, rfl⟩ := Int.eq_ofNat_of_zero_le h
  unfold Txt.mul
  by_cases h1 : (k : Int) < 1
  · have e : k = 0 := by omega
    subst e
    rfl
  · rw [if_neg h1]
    by_cases h2 : k = 1
    · subst h2; rfl
    · have : ((k : Int) == 1 || (T1 x).length == 0) = false := by
        rw [Bool.or_eq_false_iff]
        exact ⟨by simpa using (by omega : ¬ (k : Int) = 1), rfl⟩
      rw [this, if_neg (fun z => by cases z)]
      show (⟨(List.replicate (k : Int).toNat #[x]).foldl (· ++ ·) #[]⟩ : Str) = _
      rw [foldl_reps]
      rfl
def dTx (l : List (List Nat)) : PyData := .list (l.map fun x => PyData.str (tS x))
theorem dpTx {K : PySem.W.Frag} {H : Hp} {p : Addr} {l : List (List Nat)} (h : H p = some (.lst (l.map fun x => V.str (tS x)))) : Dp K H (.ref p) (dTx l) := by
  refine .lst (SqL.of h) ?_
  clear h
  induction l with
  | nil => exact .nil
  | cons a r ih => exact .cons (.str _) ih
theorem ok_strOkA {l : List Nat} (o : ∀ c ∈ l, c < 1114112) : (PyData.str (tS l)).canLay0 = true := by
  show (l.toArray).all (· < 0x110000) = true
  rw [List.all_toArray, List.all_eq_true]
  exact fun c hc => decide_eq_true (o c hc)
theorem dTx_shA {l : List (List Nat)} (o : ∀ x ∈ l, ∀ c ∈ x, c < 1114112) : SeqAt.shaped (dTx l) = true := by
  have h : PyData.canLayAll0 (l.map fun x => PyData.str (tS x)) = true ∧ PyData.depthAll (l.map fun x => PyData.str (tS x)) = 0 := by
    induction l with
    | nil => simp [PyData.canLayAll0, PyData.depthAll]
    | cons a r ih =>
      obtain ⟨h1, h2⟩ := ih fun x hx => o x (List.mem_cons_of_mem _ hx)
      have h3 := ok_strOkA (o a List.mem_cons_self)
      constructor
      · simp only [List.map_cons, PyData.canLayAll0, h1, h3, Bool.and_self]
      · simp only [List.map_cons, PyData.depthAll, h2, PyData.depth, Nat.max_self]
  refine shaped_of ?_ ?_
  · unfold dTx; simp only [PyData.canLay0]; exact h.1
  · unfold dTx; simp only [PyData.depth, h.2]; decide
theorem eqv_dTx_self (l : List (List Nat)) : PyData.eqv (dTx l) (dTx l) = true := by
  have h : PyData.eqvAll (l.map fun x => PyData.str (tS x)) (l.map fun x => PyData.str (tS x)) = true := by
    induction l with
    | nil => simp [PyData.eqvAll]
    | cons a r ih => simp [PyData.eqvAll, PyData.eqv, ih]
  simp only [dTx, PyData.eqv]
  exact h

/-! floors as rows of signs: the plain law -/
def rowF (y : Nat) (r : List Nat) (n : Nat) : Fl := ((List.range n).filter fun x : Nat => decide (r[x]? = some 46)).map fun x : Nat => ((y : Int), ((x : Nat) : Int))
def frN (rows : List (List Nat)) (n : Nat) : Fl := ((List.range n).map fun y => rowF y (rows[y]?.getD []) (rows[y]?.getD []).length).flatten
def frOf (rows : List (List Nat)) : Fl := frN rows rows.length
theorem rowF_succ {y : Nat} {r : List Nat} {n c : Nat} (h : r[n]? = some c) : rowF y r (n + 1) = rowF y r n ++ if c = 46 then [((y : Int), (n : Int))] else [] := by
  unfold rowF
  rw [List.range_succ, List.filter_append, List.map_append]
  by_cases e : c = 46 <;> simp [h, e]
theorem frN_succ {rows : List (List Nat)} {n : Nat} {r : List Nat} (h : rows[n]? = some r) : frN rows (n + 1) = frN rows n ++ rowF n r r.length := by
  unfold frN
  rw [List.range_succ, List.map_append, List.flatten_append]
  simp [h]
/-- the sign at a place -/
def sg (rows : List (List Nat)) (y x : Nat) : Option Nat := (rows[y]?.getD [])[x]?
theorem frN_mem {rows : List (List Nat)} {n : Nat} {p : Int × Int} : p ∈ frN rows n ↔ ∃ y x : Nat, p = ((y : Int), (x : Int)) ∧ y < n ∧ sg rows y x = some 46 := by
  unfold frN
  rw [List.mem_flatten]
  constructor
  · rintro ⟨l, hl, hp⟩
    obtain ⟨y, hy, rfl⟩ := List.mem_map.mp hl
    unfold rowF at hp
    obtain ⟨x, hx, rfl⟩ := List.mem_map.mp hp
    exact ⟨y, x, rfl, List.mem_range.mp hy, of_decide_eq_true (List.mem_filter.mp hx).2⟩
  · rintro ⟨y, x, rfl, hy, hs⟩
    refine ⟨_, List.mem_map.mpr ⟨y, List.mem_range.mpr hy, rfl⟩, ?_⟩
    unfold rowF
    exact List.mem_map.mpr ⟨x, List.mem_filter.mpr ⟨List.mem_range.mpr (List.getElem?_eq_some_iff.mp hs).1, decide_eq_true hs⟩, rfl⟩
theorem sg_lt {rows : List (List Nat)} {y x c : Nat} (h : sg rows y x = some c) : y < rows.length := by
  unfold sg at h
  by_cases z : y < rows.length
  · exact z
  · rw [show rows[y]? = none from List.getElem?_eq_none (by omega)] at h
    simp at h
theorem frOf_mem {rows : List (List Nat)} {p : Int × Int} : p ∈ frOf rows ↔ ∃ y x : Nat, p = ((y : Int), (x : Int)) ∧ sg rows y x = some 46 := by
  unfold frOf
  rw [frN_mem]
  constructor
  · rintro ⟨y, x, e, _, h⟩; exact ⟨y, x, e, h⟩
  · rintro ⟨y, x, e, h⟩; exact ⟨y, x, e, sg_lt h, h⟩
theorem frN_nodup (rows : List (List Nat)) : ∀ n, (frN rows n).Nodup
  | 0 => by unfold frN; simp
  | n + 1 => by
    have e : frN rows (n + 1) = frN rows n ++ rowF n (rows[n]?.getD []) (rows[n]?.getD []).length := by
      unfold frN
      rw [List.range_succ, List.map_append, List.flatten_append]
      simp
    rw [e]
    refine List.nodup_append.mpr ⟨frN_nodup rows n, ?_, fun a ha b hb => ?_⟩
    · unfold rowF
      refine List.Pairwise.map _ (fun a b h z => h ?_) (List.nodup_range.filter _)
      have := congrArg Prod.snd z
      exact Int.ofNat_inj.mp this
    · obtain ⟨y, x, rfl, hy, _⟩ := frN_mem.mp ha
      unfold rowF at hb
      obtain ⟨x', _, rfl⟩ := List.mem_map.mp hb
      intro z
      have := congrArg Prod.fst z
      simp at this
      omega
theorem frOf_nodup (rows : List (List Nat)) : (frOf rows).Nodup := frN_nodup rows _
/-- the same shape, fewer free places -/
theorem frOf_filter {rows rows' : List (List Nat)} (P : Int × Int → Bool) (hl : rows'.length = rows.length) (hw : ∀ y : Nat, (rows'[y]?.getD []).length = (rows[y]?.getD []).length)
    (hs : ∀ y x : Nat, sg rows' y x = some 46 ↔ (sg rows y x = some 46 ∧ P ((y : Int), (x : Int)) = true)) : frOf rows' = (frOf rows).filter P := by
  unfold frOf frN
  rw [hl, List.filter_flatten, List.map_map]
  congr 1
  refine List.map_congr_left fun y _ => ?_
  simp only [Function.comp]
  unfold rowF
  rw [List.filter_map, List.filter_filter, hw]
  congr 1
  refine List.filter_congr fun x _ => ?_
  have := hs y x
  unfold sg at this
  simp only [Function.comp]
  by_cases h1 : (rows[y]?.getD [])[x]? = some 46 <;> by_cases h2 : P ((y : Int), (x : Int)) = true
  · rw [decide_eq_true (this.mpr ⟨h1, h2⟩), decide_eq_true h1, h2]; rfl
  · have n : ¬ (rows'[y]?.getD [])[x]? = some 46 := fun z => h2 (this.mp z).2
    rw [decide_eq_false n, decide_eq_true h1]
    simp only [Bool.not_eq_true] at h2
    rw [h2]; rfl
  · have n : ¬ (rows'[y]?.getD [])[x]? = some 46 := fun z => h1 (this.mp z).1
    rw [decide_eq_false n, decide_eq_false h1, h2]; rfl
  · have n : ¬ (rows'[y]?.getD [])[x]? = some 46 := fun z => h1 (this.mp z).1
    rw [decide_eq_false n, decide_eq_false h1]; simp
theorem OkFl.sign {rows : List (List Nat)} (o : OkFl rows) : ∀ x ∈ rows, ∀ c ∈ x, c < 1114112 := fun x hx c hc => by
  obtain ⟨_, _, w, _, _, h⟩ := o
  rcases (h x hx).2 c hc with rfl | rfl <;> decide
/-- a place shut -/
def shut (rows : List (List Nat)) (y x : Nat) : List (List Nat) := rows.set y ((rows[y]?.getD []).set x 35)
theorem shut_len (rows : List (List Nat)) (y x : Nat) : (shut rows y x).length = rows.length := List.length_set
theorem shut_at (rows : List (List Nat)) (y x b : Nat) : (shut rows y x)[b]?.getD [] = if b = y then (rows[y]?.getD []).set x 35 else rows[b]?.getD [] := by
  unfold shut
  rw [List.getElem?_set]
  by_cases e : y = b
  · subst e
    by_cases l : y < rows.length
    · simp [l]
    · simp [l]
  · rw [if_neg e, if_neg (fun z => e z.symm)]
theorem shut_w (rows : List (List Nat)) (y x b : Nat) : ((shut rows y x)[b]?.getD []).length = (rows[b]?.getD []).length := by
  rw [shut_at]
  split
  · rename_i e; subst e; rw [List.length_set]
  · rfl
theorem shut_sg (rows : List (List Nat)) (y x b a : Nat) : sg (shut rows y x) b a = some 46 ↔ (sg rows b a = some 46 ∧ ¬ (b = y ∧ a = x)) := by
  unfold sg
  rw [shut_at]
  by_cases e : b = y
  · subst e
    rw [if_pos rfl, List.getElem?_set]
    by_cases e2 : x = a
    · subst e2
      by_cases l : x < (rows[b]?.getD []).length
      · simp [l]
      · simp [l]
    · rw [if_neg e2]
      constructor
      · intro h; exact ⟨h, fun z => e2 z.2.symm⟩
      · exact fun h => h.1
  · rw [if_neg e]
    constructor
    · intro h; exact ⟨h, fun z => e z.1⟩
    · exact fun h => h.1
theorem shut_ok {rows : List (List Nat)} (o : OkFl rows) (y x : Nat) : OkFl (shut rows y x) := by
  obtain ⟨r1, r4, w, w1, w6, h⟩ := o
  refine ⟨by rw [shut_len]; exact r1, by rw [shut_len]; exact r4, w, w1, w6, fun r hr => ?_⟩
  unfold shut at hr
  rcases List.mem_or_eq_of_mem_set hr with hr | rfl
  · exact h r hr
  · by_cases l : y < rows.length
    · have hm : rows[y] ∈ rows := List.getElem_mem l
      have e : rows[y]?.getD [] = rows[y] := by rw [List.getElem?_eq_getElem l]; rfl
      rw [e]
      refine ⟨by rw [List.length_set]; exact (h _ hm).1, fun c hc => ?_⟩
      rcases List.mem_or_eq_of_mem_set hc with hc | rfl
      · exact (h _ hm).2 c hc
      · exact .inr rfl
    · exfalso
      rw [show rows.set y ((rows[y]?.getD []).set x 35) = rows from List.set_eq_of_length_le (by omega)] at hr
      have e : rows[y]?.getD [] = [] := by rw [List.getElem?_eq_none (by omega)]; rfl
      rw [e] at hr
      have := (h _ hr).1
      simp at this
      omega
/-- behind a brick -/
def brick (s : Bool) (rows : List (List Nat)) (y x : Nat) : List (List Nat) := shut (shut rows y x) (y + (dn s).toNat) (x + (ac s).toNat)
theorem brick_fr (s : Bool) (rows : List (List Nat)) (y x : Nat) : frOf (brick s rows y x) = rem (frOf rows) ((y : Int), (x : Int)) (stp s ((y : Int), (x : Int))) := by
  unfold rem brick
  refine frOf_filter _ (by rw [shut_len, shut_len]) (fun b => by rw [shut_w, shut_w]) fun b a => ?_
  rw [shut_sg, shut_sg]
  have e : (((b : Int), (a : Int)) = stp s ((y : Int), (x : Int))) ↔ (b = y + (dn s).toNat ∧ a = x + (ac s).toNat) := by
    rw [stp_eq]
    cases s
    · simp [dn, ac]; omega
    · simp [dn, ac]; omega
  have e2 : (((b : Int), (a : Int)) = ((y : Int), (x : Int))) ↔ (b = y ∧ a = x) := by
    rw [Prod.mk.injEq]; omega
  simp only [Bool.and_eq_true, decide_eq_true_eq, ne_eq, e, e2, and_assoc]
theorem brick_ok {s : Bool} {rows : List (List Nat)} (o : OkFl rows) (y x : Nat) : OkFl (brick s rows y x) := shut_ok (shut_ok o y x) _ _
/-- a brick may be put there -/
def Cnd (s : Bool) (rows : List (List Nat)) (y x : Nat) : Prop := sg rows y x = some 46 ∧ sg rows (y + (dn s).toNat) (x + (ac s).toNat) = some 46
theorem cnd_mv {s : Bool} {rows : List (List Nat)} {F : Fl} : (∃ y x, Cnd s rows y x ∧ F = frOf (brick s rows y x)) ↔ Mv s (frOf rows) F := by
  have st : ∀ y x : Nat, stp s ((y : Int), (x : Int)) = (((y + (dn s).toNat : Nat) : Int), ((x + (ac s).toNat : Nat) : Int)) := fun y x => by
    rw [stp_eq]; cases s <;> simp [dn, ac]
  constructor
  · rintro ⟨y, x, ⟨c1, c2⟩, rfl⟩
    exact ⟨((y : Int), (x : Int)), frOf_mem.mpr ⟨y, x, rfl, c1⟩, frOf_mem.mpr ⟨_, _, st y x, c2⟩, brick_fr s rows y x⟩
  · rintro ⟨p, hp, hq, rfl⟩
    obtain ⟨y, x, rfl, c1⟩ := frOf_mem.mp hp
    obtain ⟨y', x', e, c2⟩ := frOf_mem.mp hq
    rw [st] at e
    have e1 : y + (dn s).toNat = y' := by have := congrArg Prod.fst e; exact Int.ofNat_inj.mp this
    have e2 : x + (ac s).toNat = x' := by have := congrArg Prod.snd e; exact Int.ofNat_inj.mp this
    subst e1 e2
    exact ⟨y, x, ⟨c1, c2⟩, (brick_fr s rows y x).symm⟩
theorem SG.same {gs : List Gm} (o : GOk gs) {l : Fl} {g : Nat} {gm : Gm} (sg : SG gs l g) (e : gs[g]? = some gm) {s : Bool} {ms : List Int} (m : MsS gs s l ms) (z : Int) : z ∈ gsd gm s ↔ z ∈ ms := by
  obtain ⟨hm, e', a, b⟩ := sg.inv
  rw [e] at e'
  cases e'
  constructor
  · intro hz
    obtain ⟨x, k, mv, rfl, h2⟩ := b s z hz
    obtain ⟨k', h3, h4⟩ := m.1 x mv
    rw [h2.uniq o h4]; exact h3
  · intro hz
    obtain ⟨x, k, mv, rfl, h2⟩ := m.2 z hz
    obtain ⟨k', h3, h4⟩ := a s x mv
    rw [← h4.uniq o h2]; exact h3
theorem SG.zero {gs : List Gm} (o : GOk gs) {l : Fl} {g : Nat} (sg : SG gs l g) : g = 0 ↔ ∀ s x, ¬ Mv s l x := by
  obtain ⟨hm, e, a, b⟩ := sg.inv
  constructor
  · rintro rfl s x mv
    rw [o.zero] at e
    cases e
    obtain ⟨h, hh, _⟩ := a s x mv
    cases s <;> exact nomatch hh
  · intro n
    have n1 : ∀ s, gsd hm s = [] := fun s => List.eq_nil_iff_forall_not_mem.mpr fun z hz => by
      obtain ⟨x, _, mv, _⟩ := b s z hz
      exact n s x mv
    have : hm = ([], []) := Prod.ext (n1 true) (n1 false)
    subst this
    exact nodup_ix o e o.zero

abbrev N_floor_game : List Str := ["book", "floor", "free", "y", "row", "x", "sign"]
theorem sc_floor_game : FnScope N_floor_game ["book", "floor"] (defScope s_floor_game) := ⟨rfl, rfl, rfl, by decide +kernel, rfl, by decide +kernel, by decide +kernel⟩
def t_floor_game (c : Cn) : TS :=
  (tSeq (tIfS (tNot (tTru c.K (tCall (sp_is_floor c) [] E0 (tCons (tVar 1) tNil))))
  tNever
  tNext)
  (tSeq (tAsg (tLst tNil) (gName 2))
  (tSeq (tFor (iEnum c.K (tCons (tVar 1) tNil)) (gSeq c.K 2 (gCons (gName 3) (gCons (gName 4) gNil)))
  (tDrop (tBM c.K "list" rExtend (tVar 2) (tCons (tLc (iEnumS (tCons (tVar 4) tNil)) (gSeq c.K 2 (gCons (gName 5) (gCons (gName 6) gNil))) (tTest (tOp (cEq c.K) (tVar 6) (tC (.str ".")))) (tTup (tCons (tVar 3) (tCons (tVar 5) tNil))) [5, 6]) tNil))))
  (tRet (tMeth c.cFloors "game" (sp_Floors_game 12 c) [] E0 (tMake c.cFloors (sp_Floors_init c) [] E0 (tCons (tVar 0) tNil)) (tCons (tCB (kTuple c.K) (tCons (tVar 2) tNil)) tNil))))))
def sp_floor_game (c : Cn) : Sp := fun vs H Q E => vs.length = 2 ∧ ∃ (b fl : Addr) (M : Addr → Prop) (gs : List Gm) (ds : List Int) (rows : List (List Nat)) (F0 : Fl) (n0 : Nat), vs = [.ref b, .ref fl] ∧ BookAt c H b M gs ds ∧ InvF F0 n0 gs ∧ H fl = some (.lst (lR rows)) ∧ OkFl rows ∧ (frOf rows).Sublist F0 ∧ F0.length ≤ 10 ∧ n0 ≤ 40000 ∧
  ∀ (H' : Hp) (f : List Gm) (e : List Int) (g : Nat), Keep M H H' → BookAt c H' b M (gs ++ f) (ds ++ e) → InvF F0 n0 (gs ++ f) → SG (gs ++ f) (frOf rows) g → Q (.int g) H'
theorem paired_append {α β : Type} {R : α → β → Prop} : ∀ {a : List α} {b : List β} {x : List α} {y : List β}, Paired R a b → Paired R x y → Paired R (a ++ x) (b ++ y)
  | _, _, _, _, .nil, q => q
  | _, _, _, _, .cons r t, q => .cons r (paired_append t q)
theorem p_floor_game {c : Cn} {mg : Str → Option Value} (T : Txt c mg) {vs : List V} {H : Hp} {Q : VK} {E : XK} (h : sp_floor_game c vs H Q E) : t_floor_game c { nx := fun _ H' => Q .non H', rt := Q } (start N_floor_game vs) H := by
  obtain ⟨_, b, fl, M, gs, ds, rows, F0, n0, rfl, B, I, ef, ok, sub, l10, n8, k⟩ := h
  obtain ⟨r1, r4, w, w1, w6, okr⟩ := id ok
  have ll : (lR rows).length = rows.length := List.length_map ..
  unfold t_floor_game
  repeat kaf_suf
  refine ⟨rfl, fl, rows, rfl, ef, ok, fun H1 k1 => ?_⟩
  repeat kaf_suf
  intro D hD
  have kD : Keep Nil H (upd H1 D (.lst [])) := k1.new hD
  have eD : (upd H1 D (.lst [])) D = some (.lst []) := upd_same
  have nD : H D = none := keep_none k1 hD
  generalize upd H1 D (.lst []) = H2 at kD eD ⊢
  clear hD k1
  have ef2 := kD.get (fun z => z) ef
  repeat kaf_suf
  refine r_iEnum ?_
  repeat kaf_suf
  refine ⟨fl, lR rows, rfl, SqL.of ef2, ?_⟩
  refine for_it (walk_enum (xs := lR rows)) (fun j σ H' => ∃ (x3 x4 x5 x6 : Option V) (zs : List V), σ = [some (.ref b), some (.ref fl), some (.ref D), x3, x4, x5, x6] ∧ Keep Nil H H' ∧ H' D = some (.lst zs) ∧ Paired (PrAt H') zs (frN rows j) ∧ zs.length ≤ 6 * j) ⟨_, _, _, _, [], rfl, kD, eD, .nil, Nat.le_refl _⟩ ?_ ?_ ?_
  · rintro j σ H' _ ⟨_, _, _, _, _, _, k3, _⟩
    exact SqL.of (k3.get (fun z => z) ef)
  rotate_left
  · rintro σ H3 ⟨x3, x4, x5, x6, zs, rfl, k3, e3, p3, _⟩
    rw [ll] at p3
    repeat kaf_suf
    intro x dx hx hdx ndx
    have ka : Keep Nil H3 (upd (upd H3 dx (.own x)) x (.ins c.cFloors dx [])) := (Keep.alloc hdx).new (by rw [upd_ne (fun z => ndx z.symm)]; exact hx)
    repeat kaf_suf
    refine ⟨rfl, x, b, dx, rfl, upd_same, fun H4 d hd k4 S4 N4 => ⟨rfl, ?_⟩⟩
    have k34 : Keep Nil H3 H4 := ((ka.weak (M := fun a => Nil a ∨ a = x)).trans (k4.mono fun _ z => .inr z)).hide hx
    have hd3 : H3 d = none := none_of_upd (none_of_upd hd)
    have hd0 : H d = none := keep_none k3 hd3
    have dM : ¬ M d := B.new hd0
    have e4 := k34.get (fun z => z) e3
    have p4 := paired_keep p3 fun _ _ q => q.keeps fun _ _ h => k34.get (fun z => z) h
    obtain ⟨dxs, es⟩ := id S4
    repeat kaf_suf
    intro p hp
    have kp : Keep Nil H4 (upd H4 p (.tup zs)) := Keep.alloc hp
    have ep : (upd H4 p (.tup zs)) p = some (.tup zs) := upd_same
    have S5 := S4.same kp
    have N5 : NdAt c.P c.w (upd H4 p (.tup zs)) d [] := ⟨kp.get (fun z => z) N4.here, fun x h => nomatch h⟩
    have p5 := paired_keep p4 fun _ _ q => q.keeps fun _ _ h => kp.get (fun z => z) h
    generalize upd H4 p (.tup zs) = H5 at kp ep S5 N5 p5 ⊢
    have k05 : Keep Nil H H5 := (k3.trans k34).trans kp
    have fl10 : (frOf rows).length ≤ 10 := Nat.le_trans sub.length_le l10
    repeat kaf_suf
    refine ⟨rfl, x, b, d, p, M, gs, ds, F0, frOf rows, n0, [], rfl, S5, dM, B.same k05, KnT.nil N5, I, ⟨zs, ep, p5⟩, sub, l10, n8, by omega, fun H6 f e xs' g k6 B6 K6 I6 sg6 => ?_⟩
    have kk : Keep (fun a => M a ∨ a = d) H H6 := (k05.weak).trans k6
    exact k H6 f e g (kk.hide hd0) B6 I6 sg6
  rintro j v σ H3 H4 hj ⟨x3, x4, x5, x6, zs, rfl, k3, e3, p3, zl⟩ ⟨T0, xi, y, rfl, hT, rfl, hxi, hy⟩
  cases hxi
  obtain ⟨r, hr, rfl⟩ := Option.map_eq_some_iff.mp (show (rows[j]?).map (fun r => V.str (tS r)) = some y by rw [← List.getElem?_map]; exact hy)
  obtain ⟨rl, rs⟩ := okr r (List.mem_of_getElem? hr)
  have kT : Keep Nil H3 (upd H3 T0 (.tup [.int (j : Nat), .str (tS r)])) := Keep.alloc hT
  have eT : (upd H3 T0 (.tup [.int (j : Nat), .str (tS r)])) T0 = some (.tup [.int (j : Nat), .str (tS r)]) := upd_same
  generalize upd H3 T0 (.tup [.int (j : Nat), .str (tS r)]) = H4 at kT eT ⊢
  have k4 := k3.trans kT
  have e4 := kT.get (fun z => z) e3
  have p4 := paired_keep p3 fun _ _ q => q.keeps fun _ _ h => kT.get (fun z => z) h
  have jl : j < rows.length := by rw [ll] at hj; exact hj
  clear hT k3 e3 p3 kT hy
  repeat kaf_suf
  refine r_iEnumS ?_
  repeat kaf_suf
  refine ⟨tS r, rfl, ?_⟩
  intro D2 hD2
  have nDD : D2 ≠ D := ne_new hD2 e4
  refine lc_it (walk_enumS (z := tS r)) (fun i H' => ∃ zs2 : List V, Keep Nil H4 H' ∧ H' D2 = some (.lst zs2) ∧ Paired (PrAt H') zs2 (rowF j r i) ∧ zs2.length ≤ i) ⟨[], Keep.alloc hD2, upd_same, .nil, Nat.le_refl _⟩ (fun _ _ _ _ => trivial) ?_ ?_
  · rintro i v H5 H6 hi ⟨zs2, k5, e5, p5, zl2⟩ ⟨T2, xi, y, rfl, hT2, rfl, hxi, hy⟩
    cases hxi
    obtain ⟨ch, hch, rfl⟩ := Option.map_eq_some_iff.mp (show (r[i]?).map (fun c => V.str (T1 c)) = some y from hy)
    have il := (List.getElem?_eq_some_iff.mp hch).1
    have kT : Keep Nil H5 (upd H5 T2 (.tup [.int (i : Nat), .str (T1 ch)])) := Keep.alloc hT2
    have eT : (upd H5 T2 (.tup [.int (i : Nat), .str (T1 ch)])) T2 = some (.tup [.int (i : Nat), .str (T1 ch)]) := upd_same
    generalize upd H5 T2 (.tup [.int (i : Nat), .str (T1 ch)]) = H6 at kT eT ⊢
    have e6 := kT.get (fun z => z) e5
    have p6 := paired_keep p5 fun _ _ q => q.keeps fun _ _ h => kT.get (fun z => z) h
    have k6 := k5.trans kT
    repeat kaf_suf
    refine ⟨rfl, ?_⟩
    repeat kaf_suf
    rw [show decide (T1 ch = ".") = decide (ch = 46) from T1_dec ch 46]
    refine r_ite (fun h46 => ?_) (fun h46 => ?_)
    · repeat kaf_suf
      intro o ho
      have ko : Keep Nil H6 (upd H6 o (.tup [.int (j : Nat), .int (i : Nat)])) := Keep.alloc ho
      have eo : (upd H6 o (.tup [.int (j : Nat), .int (i : Nat)])) o = some (.tup [.int (j : Nat), .int (i : Nat)]) := upd_same
      generalize upd H6 o (.tup [.int (j : Nat), .int (i : Nat)]) = H7 at ko eo ⊢
      have e7 := ko.get (fun z => z) e6
      have tD : ∀ q ys, H7 q = some (.tup ys) → (upd H7 D2 (.lst (zs2 ++ [.ref o]))) q = some (.tup ys) := fun q ys h => get_set (fun z => by rw [z, e7] at h; cases h) h
      refine ⟨zs2, e7, few1 (by omega), zs2 ++ [.ref o], (k6.trans ko).setN hD2, upd_same, ?_, by rw [List.length_append]; show zs2.length + 1 ≤ _; omega⟩
      rw [rowF_succ hch, if_pos h46]
      exact Paired.snoc (paired_keep p6 fun _ _ q => q.keeps fun _ _ h => tD _ _ (ko.get (fun z => z) h)) ⟨o, rfl, tD _ _ eo⟩
    · repeat kaf_suf
      refine ⟨zs2, k6, e6, ?_, by omega⟩
      rw [rowF_succ hch, if_neg h46, List.append_nil]
      exact p6
  rintro H5 ⟨zs2, k5, e5, p5, zl2⟩
  have e5D := k5.get (fun z => z) e4
  have p45 := paired_keep p4 fun _ _ q => q.keeps fun _ _ h => k5.get (fun z => z) h
  have zl2' : zs2.length ≤ 6 := by
    have : (tS r).cps.size = r.length := by simp [tS]
    omega
  refine ⟨D, D2, zs, zs2, rfl, rfl, e5D, e5, by rw [sizeLine_eq]; omega, ?_⟩
  have tD : ∀ q ys, H5 q = some (.tup ys) → (upd H5 D (.lst (zs ++ zs2))) q = some (.tup ys) := fun q ys h => get_set (fun z => by rw [z, e5D] at h; cases h) h
  refine ⟨_, _, _, _, zs ++ zs2, rfl, (k4.trans k5).setN nD, upd_same, ?_, by rw [List.length_append]; omega⟩
  rw [frN_succ hr]
  exact paired_append (paired_keep p45 fun _ _ q => q.keeps tD) (paired_keep p5 fun _ _ q => q.keeps tD)
theorem cal_floor_game {c : Cn} {mg : Str → Option Value} {base : Heap} (T : Txt c mg) : Cal c.P c.w c.K mg base CX0 18 "floor_game" (sp_floor_game c) := by
  obtain ⟨f, fd, F, g, b⟩ := T.F_floor_game
  exact ⟨f, fd, ["book", "floor"], F.ok (k := 17) (N := N_floor_game) sc_floor_game (fun vs H Q E h => h.1) (fun cdv A outer s H vs Q E hr h => ⟨t_floor_game c, by
  exact (pss_cons (ps_if (pt_not (p_tru (e_call (cal_is_floor T) hr (by decide) pass0 rfl (pa_cons (pv 1) pa_nil)))) (pss_one ps_never) pss_nil)
  (pss_cons (ps_set (i := 2) sc_floor_game.nd rfl (Or.inl rfl) (pe_lst pa_nil))
  (pss_cons (ps_for PassesOwn.never rfl (pi_enum rfl T.n_enumerate (pa_cons (pv 1) pa_nil)) (g_seq rfl (pgs_cons (pg_name (i := 3) sc_floor_game.nd rfl (Or.inr rfl)) (pgs_cons (pg_name (i := 4) sc_floor_game.nd rfl (Or.inl rfl)) pgs_nil)))
  (pss_one (ps_expr (pe_bm PySem.F.plainAttrs_list PySem.F.slot_list_extend PySem.F.type_list_extend mt_extend (pv 2) (pa_cons (pe_lc (own := [("x", 5), ("sign", 6)]) rfl sc_floor_game.nd (pi_enumS rfl T.n_enumerate (pa_cons (pv 4) pa_nil)) (blkOk_by (own := [("x", 5), ("sign", 6)]) (N := N_floor_game) (sc := defScope s_floor_game) (by decide +kernel)) (fun _ _ _ _ _ => (g_seq rfl (pgs_cons (pg_name (i := 5) sc_floor_game.nd rfl (Or.inl rfl)) (pgs_cons (pg_name (i := 6) sc_floor_game.nd rfl (Or.inl rfl)) pgs_nil)))) (fun _ _ _ _ _ => (pts_one (pt_cmpR (o_eq (hu64 hr)) (pv 6) pe_str (nomark _)))) (fun _ _ _ _ _ => (pe_tup (pa_cons (pv 3) (pa_cons (pv 5) pa_nil))))) pa_nil)))))
  (pss_one (ps_ret (e_meth (met_Floors_game T 12) hr (by decide) pass0 (e_make (mak_Floors T) hr (by decide) pass0 rfl (pa_cons (pv 0) pa_nil)) (pa_cons (pe_callTy k_tuple (by rfl) T.n_tuple (by decide +kernel) (pa_cons (pv 2) pa_nil)) pa_nil))))))), p_floor_game T h⟩), g, F.kp, b⟩

/-! the law's floors -/
theorem dP_all {K : PySem.W.Frag} {H : Hp} : ∀ {xs : List V} {G : Fl}, Paired (PrAt H) xs G → DpAll K H xs (G.map dP)
  | _, _, .nil => .nil
  | _, _, .cons r t => .cons r.data (dP_all t)
theorem dP_flat (G : Fl) : PyData.canLayAll0 (G.map dP) = true ∧ PyData.depthAll (G.map dP) ≤ 1 := by
  induction G with
  | nil => simp [PyData.canLayAll0, PyData.depthAll]
  | cons x r ih =>
    have h1 : (dP x).canLay0 = true := by simp [dP, PyData.canLay0, PyData.canLayAll0]
    have h2 : (dP x).depth ≤ 1 := by simp [dP, PyData.depth, PyData.depthAll]
    simp only [List.map_cons, PyData.canLayAll0, PyData.depthAll, h1, ih.1, Bool.and_self, true_and]
    omega
theorem dP_any (G : Fl) (q : Int × Int) : ((G.map dP).any fun z => PyData.eqv z (dP q)) = decide (q ∈ G) := by
  rw [List.any_map]
  by_cases h : q ∈ G
  · rw [decide_eq_true h]
    exact List.any_eq_true.mpr ⟨q, h, by simp [eqv_dP]⟩
  · rw [decide_eq_false h]
    refine List.any_eq_false.mpr fun y hy => ?_
    simp only [Function.comp, eqv_dP, decide_eq_true_eq]
    intro e; exact h (e ▸ hy)
theorem v_ninPr {P : Program} {w : World} {K : PySem.W.Frag} {H : Hp} {Q : VK} {o l : Addr} {p : Int × Int} {xs : List V} {G : Fl} (hp : PrAt H (.ref o) p) (hl : H l = some (.lst xs)) (pG : Paired (PrAt H) xs G) (k : Q (.bl (!decide (p ∈ G))) H) : cNotIn P w K (.ref o) (.ref l) H Q :=
  .inr (.inl ⟨_, _, hp.data, .lst (SqL.of hl) (dP_all pG), dP_sh _, shaped_of (by simp only [PyData.canLay0]; exact (dP_flat G).1) (by have := (dP_flat G).2; simp only [PyData.depth]; omega), by rw [dP_any]; exact k⟩)
theorem paired_erase {α β : Type} {R : α → β → Prop} : ∀ {xs : List α} {ys : List β} (k : Nat), Paired R xs ys → Paired R (xs.eraseIdx k) (ys.eraseIdx k)
  | _, _, _, .nil => .nil
  | _, _, 0, .cons _ t => t
  | _, _, k + 1, .cons r t => .cons r (paired_erase k t)
theorem r_andP {ta tb : TT} {σ : L2.St} {H : Hp} {R : Bool → Hp → Prop} (P : Prop) (hT : P → R true H) (hF : ¬ P → R false H) (h : ∀ R' : Bool → Hp → Prop, (P → R' true H) → (¬ P → R' false H) → tAnd ta tb σ H R') : tAnd ta tb σ H R := h R hT hF
theorem absQB {p : Prop} [Decidable p] {H : Hp} {R : Bool → Hp → Prop} (h1 : p → R true H) (h2 : ¬ p → R false H) : R (decide p) H := by
  by_cases h : p
  · rw [decide_eq_true h]; exact h1 h
  · rw [decide_eq_false h]; exact h2 h
abbrev N_law_floor : List Str := ["deck", "high", "wide", "places", "free", "most", "found", "y", "at", "x"]
theorem sc_law_floor : FnScope N_law_floor ["deck"] (defScope s_law_floor) := ⟨rfl, rfl, rfl, by decide +kernel, rfl, by decide +kernel, by decide +kernel⟩
def t_law_floor (c : Cn) : TS :=
  (tSeq (tAsg (tOp (bAdd c.K) (tC (.int 1)) (tCall (sp_law_draw c) [] E0 (tCons (tVar 0) (tCons (tC (.int 4)) tNil)))) (gName 1))
  (tSeq (tAsg (tOp (bAdd c.K) (tC (.int 1)) (tCall (sp_law_draw c) [] E0 (tCons (tVar 0) (tCons (tC (.int 6)) tNil)))) (gName 2))
  (tSeq (tAsg (tLc (iRng1 (tCons (tOp bMul (tVar 1) (tVar 2)) tNil)) (gName 8) tYes (tTup (tCons (tOp bDiv (tVar 8) (tVar 2)) (tCons (tOp bMod (tVar 8) (tVar 2)) tNil))) [8]) (gName 3))
  (tSeq (tAsg (tLst tNil) (gName 4))
  (tSeq (tAsg (tOp (bIx c.P c.w c.K) (tLst (tCons (tC (.int 9)) (tCons (tCall (sp_law_draw c) [] E0 (tCons (tVar 0) (tCons (tC (.int 10)) tNil))) tNil))) (tCB kInt (tCons (tOp (cEq c.K) (tCall (sp_law_draw c) [] E0 (tCons (tVar 0) (tCons (tC (.int 4)) tNil))) (tC (.int 0))) tNil))) (gName 5))
  (tSeq (tWhile (tAnd (tTest (tOp cGt (tCB (kLen c.K) (tCons (tVar 3) tNil)) (tC (.int 0)))) (tTest (tOp (cLt c.K) (tCB (kLen c.K) (tCons (tVar 4) tNil)) (tVar 5))))
  (tDrop (tBM c.K "list" rAppend (tVar 4) (tCons (tBM c.K "list" rPopAt (tVar 3) (tCons (tCall (sp_law_draw c) [] E0 (tCons (tVar 0) (tCons (tCB (kLen c.K) (tCons (tVar 3) tNil)) tNil))) tNil)) tNil))))
  (tSeq (tAsg (tLst tNil) (gName 6))
  (tSeq (tFor (iRng1 (tCons (tVar 1) tNil)) (gName 7)
  (tDrop (tBM c.K "list" rAppend (tVar 6) (tCons (tBM c.K "str" (rJoin c.K) (tC (.str "")) (tCons (tLc (iRng1 (tCons (tVar 2) tNil)) (gName 9) tYes (tOp (bIx c.P c.w c.K) (tC (.str ".#")) (tCB kInt (tCons (tOp (cNotIn c.P c.w c.K) (tTup (tCons (tVar 7) (tCons (tVar 9) tNil))) (tVar 4)) tNil))) [9]) tNil)) tNil))))
  (tRet (tVar 6))))))))))
def sp_law_floor (c : Cn) : Sp := fun vs H Q E => vs.length = 1 ∧ ∃ (d : Addr) (M : Addr → Prop), vs = [.ref d] ∧ DeckAt H d M ∧
  ∀ (H' : Hp) (r : Addr) (rows : List (List Nat)), Keep M H H' → DeckAt H' d M → H r = none → H' r = some (.lst (lR rows)) → OkFl rows → (frOf rows).length ≤ 9 → Q (.ref r) H'
theorem p_law_floor {c : Cn} {mg : Str → Option Value} (T : Txt c mg) {vs : List V} {H : Hp} {Q : VK} {E : XK} (h : sp_law_floor c vs H Q E) : t_law_floor c { nx := fun _ H' => Q .non H', rt := Q } (start N_law_floor vs) H := by
  obtain ⟨_, d, M, rfl, D, k⟩ := h
  unfold t_law_floor
  repeat kaf_suf
  refine ⟨rfl, d, 4, M, rfl, by decide, by decide, D, fun H1 hi k1 D1 hi0 hi1 => ?_⟩
  repeat kaf_suf
  refine ⟨rfl, d, 6, M, rfl, by decide, by decide, D1, fun H2 wi k2 D2 wi0 wi1 => ?_⟩
  have k02 := k1.trans k2
  obtain ⟨hn, ehn⟩ : ∃ hn : Nat, 1 + hi = (hn : Int) := ⟨(1 + hi).toNat, by omega⟩
  obtain ⟨wn, ewn⟩ : ∃ wn : Nat, 1 + wi = (wn : Int) := ⟨(1 + wi).toNat, by omega⟩
  rw [ehn]
  refine v_add ?_
  rw [ewn]
  clear k1 D1 k2
  have mle : (hn : Int) * (wn : Int) ≤ 24 ∧ 0 ≤ (hn : Int) * (wn : Int) := by
    have h1 : hn ≤ 4 := by omega
    have h2 : wn ≤ 6 := by omega
    have := Nat.mul_le_mul h1 h2
    rw [← Int.natCast_mul]
    omega
  repeat kaf_suf
  generalize hmn : ((hn : Int) * (wn : Int)).toNat = mn
  have mn24 : mn ≤ 24 := by omega
  intro P hP
  refine lc_range (lo := 0) (n := mn) (fun j H' => ∃ (ps : List V) (pF : Fl), Keep Nil H2 H' ∧ H' P = some (.lst ps) ∧ Paired (PrAt H') ps pF ∧ ps.length = j) ⟨[], [], Keep.alloc hP, upd_same, .nil, rfl⟩ ?_ ?_
  · rintro j H3 hj ⟨ps, pF, k3, e3, p3, pl⟩
    repeat kaf_suf
    refine ⟨rfl, ?_⟩
    repeat kaf_suf
    intro o ho
    generalize ha : (0 + (j : Int)) / (wn : Int) = ay
    generalize hb : (0 + (j : Int)) % (wn : Int) = ax
    have ko : Keep Nil H3 (upd H3 o (.tup [.int ay, .int ax])) := Keep.alloc ho
    have eo : (upd H3 o (.tup [.int ay, .int ax])) o = some (.tup [.int ay, .int ax]) := upd_same
    generalize upd H3 o (.tup [.int ay, .int ax]) = H4 at ko eo ⊢
    have e4 := ko.get (fun z => z) e3
    have tD : ∀ q ys, H4 q = some (.tup ys) → (upd H4 P (.lst (ps ++ [.ref o]))) q = some (.tup ys) := fun q ys h => get_set (fun z => by rw [z, e4] at h; cases h) h
    exact ⟨ps, e4, few1 (by omega), ps ++ [.ref o], pF ++ [(ay, ax)], (k3.trans ko).setN hP, upd_same, Paired.snoc (paired_keep p3 fun _ _ q => q.keeps fun _ _ h => tD _ _ (ko.get (fun z => z) h)) ⟨o, rfl, tD _ _ eo⟩, by rw [List.length_append]; show ps.length + 1 = _; omega⟩
  rintro H3 ⟨ps, pF, k3, e3, p3, pl⟩
  have D3 := D2.keep k3 fun _ _ z => z
  have nP0 : H P = none := keep_noneM k02 (fun z => D2.dom z hP) hP
  have nPM : ¬ M P := D2.new hP
  have k03 := k02.trans k3.weak
  clear k02 k3 hP D2
  repeat kaf_suf
  intro F hF
  have nFP : F ≠ P := ne_new hF e3
  have kF : Keep Nil H3 (upd H3 F (.lst [])) := Keep.alloc hF
  have eF : (upd H3 F (.lst [])) F = some (.lst []) := upd_same
  have nFM : ¬ M F := D3.new hF
  have nF0 : H F = none := keep_noneM k03 nFM hF
  generalize upd H3 F (.lst []) = H4 at kF eF ⊢
  have e4 := kF.get (fun z => z) e3
  have p4 := paired_keep p3 fun _ _ q => q.keeps fun _ _ h => kF.get (fun z => z) h
  have D4 := D3.keep kF fun _ _ z => z
  have k04 := k03.trans kF.weak
  clear k03 kF hF D3 e3 p3
  repeat kaf_suf
  refine ⟨rfl, d, 10, M, rfl, by decide, by decide, D4, fun H5 n10 k5 D5 n0 n1 => ?_⟩
  have e5 := k5 _ _ nPM e4
  have eF5 := k5 _ _ nFM eF
  have tM : ∀ {H H' : Hp}, DeckAt H d M → Keep M H H' → ∀ q ys, H q = some (.tup ys) → H' q = some (.tup ys) := fun D k q ys h => k _ _ (fun z => by
    obtain ⟨pl, ps, i, h1, _, h2, _, _, _, _, h3, h4⟩ := D.ex
    rcases h4 q z with rfl | rfl | hx
    · rw [h1] at h; cases h
    · rw [h2] at h; cases h
    · obtain ⟨_, _, _, a, b, k, e⟩ := h3 q hx
      rw [e] at h; cases h) h
  have p5 := paired_keep p4 fun _ _ q => q.keeps (tM D4 k5)
  have k05 := k04.trans k5
  clear k04 k5 e4 eF p4 D4
  repeat kaf_suf
  intro t ht
  have kt : Keep Nil H5 (upd H5 t (.lst [.int 9, .int n10])) := Keep.alloc ht
  have et : (upd H5 t (.lst [.int 9, .int n10])) t = some (.lst [.int 9, .int n10]) := upd_same
  have ntM : ¬ M t := D5.new ht
  have D6 := D5.keep kt fun _ _ z => z
  generalize upd H5 t (.lst [.int 9, .int n10]) = H6 at kt et D6 ⊢
  have e6 := kt.get (fun z => z) e5
  have eF6 := kt.get (fun z => z) eF5
  have p6 := paired_keep p5 fun _ _ q => q.keeps fun _ _ h => kt.get (fun z => z) h
  have k06 := k05.trans kt.weak
  clear k05 kt ht e5 eF5 p5 D5
  repeat kaf_suf
  refine ⟨rfl, d, 4, M, rfl, by decide, by decide, D6, fun H7 n4 k7 D7 m0 m1 => ?_⟩
  have e7 := k7 _ _ nPM e6
  have eF7 := k7 _ _ nFM eF6
  have et7 := k7 _ _ ntM et
  have p7 := paired_keep p6 fun _ _ q => q.keeps (tM D6 k7)
  have k07 := k06.trans k7
  clear k06 k7 e6 eF6 p6 D6 et
  repeat kaf_suf
  obtain ⟨mo, hmo, mo9⟩ : ∃ mo : Int, atI [V.int 9, V.int n10] (if decide (n4 = 0) = true then 1 else 0) = some (V.int mo) ∧ mo ≤ 9 := by
    by_cases h : n4 = 0
    · rw [decide_eq_true h, if_pos rfl]; exact ⟨n10, rfl, by omega⟩
    · rw [decide_eq_false h, if_neg Bool.false_ne_true]; exact ⟨9, rfl, by omega⟩
  refine v_ixL et7 hmo ?_
  repeat kaf_suf
  refine ⟨fun m σ H' => ∃ (ps fs : List V) (pF fF : Fl), σ = [some (.ref d), some (.int hn), some (.int wn), some (.ref P), some (.ref F), some (.int mo), none, none, none, none] ∧ Keep M H H' ∧ DeckAt H' d M ∧ H' P = some (.lst ps) ∧ H' F = some (.lst fs) ∧ Paired (PrAt H') ps pF ∧ Paired (PrAt H') fs fF ∧ fs.length ≤ 9 ∧ m = ps.length ∧ ps.length ≤ 24, ⟨_, ps, [], pF, [], rfl, k07, D7, e7, eF7, p7, .nil, Nat.zero_le _, rfl, by omega⟩, ?_⟩
  clear k07 D7 e7 eF7 p7 et7 pl
  rintro m σ H8 ⟨ps, fs, pF, fF, rfl, k8, D8, e8, eF8, p8, f8, fl9, rfl, pl24⟩
  refine r_andP (0 < ps.length ∧ (fs.length : Int) < mo) (fun hb => ?_) (fun _ => ?_) (fun R' hT hF => ?_)
  rotate_left
  rotate_left
  · repeat kaf_suf
    refine r_ite (fun hpos => ?_) (fun hpos => ?_)
    · repeat kaf_suf
      refine absQB (fun h => hT ⟨by omega, h⟩) (fun h => hF fun z => h z.2)
    · exact hF fun z => hpos (by omega)
  · refine r_ite_tt ?_
    refine ⟨fun σ H' => ∃ (ps' fs' : List V) (pF' fF' : Fl), σ = [some (.ref d), some (.int hn), some (.int wn), some (.ref P), some (.ref F), some (.int mo), none, none, none, none] ∧ Keep M H H' ∧ DeckAt H' d M ∧ H' P = some (.lst ps') ∧ H' F = some (.lst fs') ∧ Paired (PrAt H') ps' pF' ∧ Paired (PrAt H') fs' fF' ∧ fs'.length ≤ 9 ∧ ps'.length < ps.length, ?_, ?_⟩
    · rintro σ' H' ⟨ps', fs', pF', fF', rfl, k', D', e', f', p', q', l9, lt⟩
      exact ⟨_, lt, ps', fs', pF', fF', rfl, k', D', e', f', p', q', l9, rfl, by omega⟩
    repeat kaf_suf
    refine ⟨rfl, d, _, M, rfl, by omega, by omega, D8, fun H9 n k9 D9 n0 n1 => ?_⟩
    have e9 := k9 _ _ nPM e8
    have eF9 := k9 _ _ nFM eF8
    have p9 := paired_keep p8 fun _ _ q => q.keeps (tM D8 k9)
    have f9 := paired_keep f8 fun _ _ q => q.keeps (tM D8 k9)
    have k09 := k8.trans k9
    obtain ⟨n, rfl⟩ := Int.eq_ofNat_of_zero_le n0
    have nl : n < ps.length := by omega
    obtain ⟨v, hv⟩ : ∃ v, ps[n]? = some v := ⟨_, List.getElem?_eq_getElem nl⟩
    have six : seqIndex? (n : Int) ps.length = some n := by
      have h1 : ¬ ((n : Int) < 0) := by omega
      have h2 : (n : Int) < ps.length := by omega
      simp [seqIndex?, h2]
      omega
    refine ⟨P, ps, n, n, v, rfl, rfl, e9, by omega, by omega, six, hv, ?_⟩
    obtain ⟨q, hq, pv⟩ := paired_get' p9 hv
    have t1 : ∀ q ys, H9 q = some (.tup ys) → (upd H9 P (.lst (ps.eraseIdx n))) q = some (.tup ys) := fun q ys h => get_set (fun z => by rw [z, e9] at h; cases h) h
    have eF10 : (upd H9 P (.lst (ps.eraseIdx n))) F = some (.lst fs) := get_set nFP eF9
    have e10 : (upd H9 P (.lst (ps.eraseIdx n))) P = some (.lst (ps.eraseIdx n)) := upd_same
    have D10 : DeckAt (upd H9 P (.lst (ps.eraseIdx n))) d M := D9.keep (N := fun a => a = P) (Keep.refl.set rfl) fun x h z => nPM (z ▸ h)
    have k10 : Keep M H (upd H9 P (.lst (ps.eraseIdx n))) := k09.setN nP0
    have p10 := paired_keep (paired_erase n p9) fun _ _ q => q.keeps t1
    have f10 := paired_keep f9 fun _ _ q => q.keeps t1
    have pv10 := pv.keeps t1
    generalize upd H9 P (.lst (ps.eraseIdx n)) = H10 at e10 eF10 D10 k10 p10 f10 pv10 ⊢
    have t2 : ∀ q ys, H10 q = some (.tup ys) → (upd H10 F (.lst (fs ++ [v]))) q = some (.tup ys) := fun q ys h => get_set (fun z => by rw [z, eF10] at h; cases h) h
    refine r_nil (v_append eF10 (few1 (by omega)) ?_)
    repeat kaf_suf
    refine ⟨ps.eraseIdx n, fs ++ [v], _, fF ++ [q], rfl, k10.setN nF0, D10.keep (N := fun a => a = F) (Keep.refl.set rfl) fun x h z => nFM (z ▸ h), get_set (fun z => nFP z.symm) e10, upd_same, paired_keep p10 fun _ _ q => q.keeps t2, Paired.snoc (paired_keep f10 fun _ _ q => q.keeps t2) (pv10.keeps t2), ?_, ?_⟩
    · rw [List.length_append]; show fs.length + 1 ≤ 9; omega
    · rw [List.length_eraseIdx]; split <;> omega
  · refine r_ite_ff ?_
    repeat kaf_suf
    intro R hR
    have kR : Keep Nil H8 (upd H8 R (.lst [])) := Keep.alloc hR
    have eR : (upd H8 R (.lst [])) R = some (.lst []) := upd_same
    have nRM : ¬ M R := D8.new hR
    have nR0 : H R = none := keep_noneM k8 nRM hR
    have nFR : F ≠ R := ne_old hR eF8
    generalize upd H8 R (.lst []) = H9 at kR eR ⊢
    have D9 := D8.keep kR fun _ _ z => z
    have eF9 := kR.get (fun z => z) eF8
    have f9 := paired_keep f8 fun _ _ q => q.keeps fun _ _ h => kR.get (fun z => z) h
    have k9 := k8.trans kR.weak
    have ffl := Paired.length f8
    clear D8 eF8 f8 k8 kR hR e8 p8
    repeat kaf_suf
    refine for_range (lo := 0) (n := (hn : Int).toNat) (fun i σ H' => ∃ (x7 x8 x9 : Option V) (rs : List (List Nat)), σ = [some (.ref d), some (.int hn), some (.int wn), some (.ref P), some (.ref F), some (.int mo), some (.ref R), x7, x8, x9] ∧ Keep M H H' ∧ DeckAt H' d M ∧ H' F = some (.lst fs) ∧ Paired (PrAt H') fs fF ∧ H' R = some (.lst (lR rs)) ∧ rs.length = i ∧ (∀ r ∈ rs, r.length = wn ∧ ∀ c ∈ r, c = 46 ∨ c = 35) ∧ ∀ y x : Nat, sg rs y x = some 46 → ((y : Int), (x : Int)) ∈ fF) ⟨_, _, _, [], rfl, k9, D9, eF9, f9, eR, rfl, (fun r h => nomatch h), fun y x h => by unfold sg at h; simp at h⟩ ?_ ?_
    rotate_left
    · rintro σ H10 ⟨x7, x8, x9, rs, rfl, k10, D10, _, _, e10, rl, ro, rm⟩
      repeat kaf_suf
      refine k H10 R rs k10 D10 nR0 e10 ⟨by omega, by omega, wn, by omega, by omega, ro⟩ ?_
      have := nodup_le (frOf rs) fF (frOf_nodup rs) fun p hp => by
        obtain ⟨y, x, rfl, h⟩ := frOf_mem.mp hp
        exact rm y x h
      omega
    rintro i σ H10 hi ⟨x7, x8, x9, rs, rfl, k10, D10, eF10, f10, e10, rl, ro, rm⟩
    rw [show (0 + (i : Int)) = (i : Int) from Int.zero_add _]
    clear D9 eF9 f9 k9 eR
    have i4 : i < 4 := by omega
    repeat kaf_suf
    intro L hL
    have nLR : L ≠ R := ne_new hL e10
    refine lc_range (lo := 0) (n := (wn : Int).toNat) (fun j H' => ∃ l : List Nat, H' L = some (.lst (l.map fun c => V.str (T1 c))) ∧ l.length = j ∧ (∀ c ∈ l, c = 46 ∨ c = 35) ∧ (∀ x : Nat, l[x]? = some 46 → ((i : Int), (x : Int)) ∈ fF) ∧ Keep Nil H10 H') ⟨[], upd_same, rfl, (fun c h => nomatch h), (fun x h => by simp at h), Keep.alloc hL⟩ ?_ ?_
    · rintro j H11 hj ⟨l, e11, ll, lo, lm, k11⟩
      rw [show (0 + (j : Int)) = (j : Int) from Int.zero_add _]
      have eF11 := k11.get (fun z => z) eF10
      have f11 := paired_keep f10 fun _ _ q => q.keeps fun _ _ h => k11.get (fun z => z) h
      repeat kaf_suf
      refine ⟨rfl, ?_⟩
      repeat kaf_suf
      intro o ho
      have ko : Keep Nil H11 (upd H11 o (.tup [.int (i : Int), .int (j : Int)])) := Keep.alloc ho
      have eo : (upd H11 o (.tup [.int (i : Int), .int (j : Int)])) o = some (.tup [.int (i : Int), .int (j : Int)]) := upd_same
      generalize upd H11 o (.tup [.int (i : Int), .int (j : Int)]) = H12 at ko eo ⊢
      have e12 := ko.get (fun z => z) e11
      have eF12 := ko.get (fun z => z) eF11
      have f12 := paired_keep f11 fun _ _ q => q.keeps fun _ _ h => ko.get (fun z => z) h
      repeat kaf_suf
      refine v_ninPr (p := ((i : Int), (j : Int))) ⟨o, rfl, eo⟩ eF12 f12 ?_
      repeat kaf_suf
      obtain ⟨ch, hch, hc, h46⟩ : ∃ ch : Nat, atI ((".#" : Str).cps.toList) (if (!decide (((i : Int), (j : Int)) ∈ fF)) = true then 1 else 0) = some ch ∧ (ch = 46 ∨ ch = 35) ∧ (ch = 46 → ((i : Int), (j : Int)) ∈ fF) := by
        by_cases h : ((i : Int), (j : Int)) ∈ fF
        · rw [decide_eq_true h]; exact ⟨46, rfl, .inl rfl, fun _ => h⟩
        · rw [decide_eq_false h]; exact ⟨35, rfl, .inr rfl, fun z => by cases z⟩
      refine v_ixS hch (by decide) ?_
      refine ⟨_, e12, few1 (by rw [List.length_map]; omega), l ++ [ch], by rw [List.map_append]; exact upd_same, by rw [List.length_append]; show l.length + 1 = _; omega, fun x hx => ?_, fun x hx => ?_, (k11.trans ko).setN hL⟩
      · rcases List.mem_append.mp hx with hx | hx
        · exact lo x hx
        · rw [List.mem_singleton] at hx
          rw [hx]; exact hc
      · by_cases lt : x < l.length
        · rw [List.getElem?_append_left lt] at hx
          exact lm x hx
        · have xl := (List.getElem?_eq_some_iff.mp hx).1
          rw [List.length_append] at xl
          have xe : x = l.length := by
            have : [ch].length = 1 := rfl
            omega
          subst xe
          rw [List.getElem?_append_right (Nat.le_refl _)] at hx
          simp at hx
          have := h46 hx
          rw [ll]; exact this
    rintro H11 ⟨l, e11, ll, lo, lm, k11⟩
    have eR11 := k11.get (fun z => z) e10
    have eF11 := k11.get (fun z => z) eF10
    have f11 := paired_keep f10 fun _ _ q => q.keeps fun _ _ h => k11.get (fun z => z) h
    have D11 := D10.keep k11 fun _ _ z => z
    refine r_nil ?_
    refine v_joinL (ys := l.map T1) (by rw [List.map_map]; exact e11) (by rw [join_len]; omega) ?_
    rw [join_signs]
    have lrl : (lR rs).length = i := by rw [← rl]; exact List.length_map ..
    refine r_nil (v_append eR11 (few1 (by omega)) ?_)
    have t1 : ∀ q ys, H11 q = some (.tup ys) → (upd H11 R (.lst (lR rs ++ [.str (tS l)]))) q = some (.tup ys) := fun q ys h => get_set (fun z => by rw [z, eR11] at h; cases h) h
    repeat kaf_suf
    refine ⟨_, _, _, rs ++ [l], rfl, (k10.trans k11.weak).setN nR0, D11.keep (N := fun a => a = R) (Keep.refl.set rfl) fun x h z => nRM (z ▸ h), get_set nFR eF11, paired_keep f11 fun _ _ q => q.keeps t1, by rw [show lR (rs ++ [l]) = lR rs ++ [.str (tS l)] from List.map_append]; exact upd_same, by rw [List.length_append]; show rs.length + 1 = _; omega, fun r hr => ?_, fun y x h => ?_⟩
    · rcases List.mem_append.mp hr with hr | hr
      · exact ro r hr
      · rw [List.mem_singleton] at hr
        subst hr
        exact ⟨by omega, lo⟩
    · unfold sg at h
      by_cases lt : y < rs.length
      · rw [List.getElem?_append_left lt] at h
        exact rm y x h
      · by_cases ye : y = rs.length
        · subst ye
          rw [List.getElem?_append_right (Nat.le_refl _)] at h
          simp at h
          have := lm x h
          rw [rl]; exact this
        · rw [show (rs ++ [l])[y]? = none from List.getElem?_eq_none (by rw [List.length_append]; show rs.length + 1 ≤ y; omega)] at h
          simp at h
theorem cal_law_floor {c : Cn} {mg : Str → Option Value} {base : Heap} (T : Txt c mg) : Cal c.P c.w c.K mg base CX0 2 "_law_floor" (sp_law_floor c) := by
  obtain ⟨f, fd, F, g, b⟩ := T.F_law_floor
  exact ⟨f, fd, ["deck"], F.ok (k := 1) (N := N_law_floor) sc_law_floor (fun vs H Q E h => h.1) (fun cdv A outer s H vs Q E hr h => ⟨t_law_floor c, by
  exact (pss_cons (ps_set (i := 1) sc_law_floor.nd rfl (Or.inl rfl) (pe_op o_add pe_int (e_call (cal_law_draw T) hr (by decide) pass0 rfl (pa_cons (pv 0) (pa_cons pe_int pa_nil)))))
  (pss_cons (ps_set (i := 2) sc_law_floor.nd rfl (Or.inr rfl) (pe_op o_add pe_int (e_call (cal_law_draw T) hr (by decide) pass0 rfl (pa_cons (pv 0) (pa_cons pe_int pa_nil)))))
  (pss_cons (ps_setLc (i := 3) (own := [("at", 8)]) rfl sc_law_floor.nd rfl rfl (sw_true rfl rfl rfl (by decide +kernel)) (pi_range1 rfl T.n_range (pa_cons (pe_op o_mul (pv 1) (pv 2)) pa_nil)) (blkOk_by (own := [("at", 8)]) (N := N_law_floor) (sc := defScope s_law_floor) (by decide +kernel)) (fun _ _ _ _ _ => (pg_name (i := 8) sc_law_floor.nd rfl (Or.inl rfl))) (fun _ _ _ _ _ => pts_nil) (fun _ _ _ _ _ => (pe_tup (pa_cons (pe_op o_div (pv 8) (pv 2)) (pa_cons (pe_op o_mod (pv 8) (pv 2)) pa_nil)))))
  (pss_cons (ps_set (i := 4) sc_law_floor.nd rfl (Or.inr rfl) (pe_lst pa_nil))
  (pss_cons (ps_set (i := 5) sc_law_floor.nd rfl (Or.inl rfl) (pe_ix (x_ix (hu64 hr)) (pe_lst (pa_cons pe_int (pa_cons (e_call (cal_law_draw T) hr (by decide) pass0 rfl (pa_cons (pv 0) (pa_cons pe_int pa_nil))) pa_nil))) (pe_callTy k_int (by rfl) T.n_int (by decide +kernel) (pa_cons (pe_cmpR (o_eq (hu64 hr)) (e_call (cal_law_draw T) hr (by decide) pass0 rfl (pa_cons (pv 0) (pa_cons pe_int pa_nil))) pe_int (nomark _)) pa_nil)) (fun _ _ => rfl)))
  (pss_cons (ps_while PassesOwn.never (PW.pt (pw_and (pt_cmpR o_gt (pe_callB k_len (by rfl) T.n_len (by decide +kernel) (pa_cons (pv 3) pa_nil)) pe_int (nomark _)) (pw_and1 (pt_cmpR (o_lt (hu64 hr)) (pe_callB k_len (by rfl) T.n_len (by decide +kernel) (pa_cons (pv 4) pa_nil)) (pv 5) (nomark _)))))
  (pss_one (ps_expr (pe_bm PySem.F.plainAttrs_list PySem.F.slot_list_append PySem.F.type_list_append mt_append (pv 4) (pa_cons (pe_bm PySem.F.plainAttrs_list PySem.F.slot_list_pop PySem.F.type_list_pop mt_popAt (pv 3) (pa_cons (e_call (cal_law_draw T) hr (by decide) pass0 rfl (pa_cons (pv 0) (pa_cons (pe_callB k_len (by rfl) T.n_len (by decide +kernel) (pa_cons (pv 3) pa_nil)) pa_nil))) pa_nil)) pa_nil)))))
  (pss_cons (ps_set (i := 6) sc_law_floor.nd rfl (Or.inl rfl) (pe_lst pa_nil))
  (pss_cons (ps_for PassesOwn.never rfl (pi_range1 rfl T.n_range (pa_cons (pv 1) pa_nil)) (pg_name (i := 7) sc_law_floor.nd rfl (Or.inr rfl))
  (pss_one (ps_expr (pe_bm PySem.F.plainAttrs_list PySem.F.slot_list_append PySem.F.type_list_append mt_append (pv 6) (pa_cons (pe_bm PySem.F.plainAttrs_str PySem.F.slot_str_join PySem.F.type_str_join mt_join pe_str (pa_cons (pe_lc (own := [("x", 9)]) rfl sc_law_floor.nd (pi_range1 rfl T.n_range (pa_cons (pv 2) pa_nil)) (blkOk_by (own := [("x", 9)]) (N := N_law_floor) (sc := defScope s_law_floor) (by decide +kernel)) (fun _ _ _ _ _ => (pg_name (i := 9) sc_law_floor.nd rfl (Or.inl rfl))) (fun _ _ _ _ _ => pts_nil) (fun _ _ _ _ _ => (pe_ix (x_ix (hu64 hr)) pe_str (pe_callTy k_int (by rfl) T.n_int (by decide +kernel) (pa_cons (pe_cmpR (o_notin (hu65 hr)) (pe_tup (pa_cons (pv 7) (pa_cons (pv 9) pa_nil))) (pv 4) (by rfl)) pa_nil)) (fun _ _ => rfl)))) pa_nil)) pa_nil)))))
  (pss_one (ps_ret (pv 6))))))))))), p_law_floor T h⟩), g, F.kp, b⟩

/-! the law's floors behind a brick -/
def FlAt (H : Hp) (q : Addr) (rows : List (List Nat)) : Prop := H q = some (.lst (lR rows))
def SrAt (H : Hp) (w : Addr) (r : List Nat) : Prop := H w = some (.lst (r.map fun c => V.str (T1 c)))
theorem paired_of {α β : Type} {R : α → β → Prop} : ∀ {xs : List α} {ys : List β}, xs.length = ys.length → (∀ (i : Nat) (x : α) (y : β), xs[i]? = some x → ys[i]? = some y → R x y) → Paired R xs ys
  | [], [], _, _ => .nil
  | [], _ :: _, h, _ => by simp at h
  | _ :: _, [], h, _ => by simp at h
  | x :: xs, y :: ys, h, r => .cons (r 0 x y rfl rfl) (paired_of (by simpa using h) fun i a b ha hb => r (i + 1) a b (by simpa using ha) (by simpa using hb))
theorem SrAt.set {H : Hp} {ws : List Addr} {rows : List (List Nat)} {w : Addr} {r : List Nat} {y x : Nat} (p : Paired (SrAt H) ws rows) (nd : ws.Nodup) (hw : ws[y]? = some w) (hr : rows[y]? = some r) :
    Paired (SrAt (upd H w (.lst ((r.map fun c => V.str (T1 c)).set x (.str "#"))))) ws (shut rows y x) := by
  have pl := Paired.length p
  refine paired_of (by rw [shut_len]; exact pl) fun i u z hu hz => ?_
  unfold shut at hz
  have hrd : rows[y]?.getD [] = r := by rw [hr]; rfl
  rw [hrd, List.getElem?_set] at hz
  by_cases e : y = i
  · subst e
    rw [hw] at hu
    cases hu
    rw [if_pos rfl, if_pos (List.getElem?_eq_some_iff.mp hr).1] at hz
    cases hz
    unfold SrAt
    rw [upd_same, List.map_set]
    rfl
  · rw [if_neg e] at hz
    obtain ⟨a, ha, sa⟩ := paired_get p hz
    rw [hu] at ha
    cases ha
    have ne : u ≠ w := fun q => by
      subst q
      obtain ⟨l1, e1⟩ := List.getElem?_eq_some_iff.mp hu
      obtain ⟨l2, e2⟩ := List.getElem?_eq_some_iff.mp hw
      exact e ((List.getElem_inj nd).mp (e2.trans e1.symm))
    unfold SrAt at *
    rw [upd_ne ne]
    exact sa
theorem paired_keepM {α β : Type} {R S : α → β → Prop} : ∀ {xs : List α} {ys : List β}, Paired R xs ys → (∀ a ∈ xs, ∀ b, R a b → S a b) → Paired S xs ys
  | _, _, .nil, _ => .nil
  | _, _, .cons r t, h => .cons (h _ List.mem_cons_self _ r) (paired_keepM t fun a ha => h a (List.mem_cons_of_mem _ ha))
theorem paired_mem {α β : Type} {R : α → β → Prop} {xs : List α} {ys : List β} (p : Paired R xs ys) {a : α} (h : a ∈ xs) : ∃ b, R a b := by
  obtain ⟨i, hi, e⟩ := List.getElem_of_mem h
  obtain ⟨y, _, r⟩ := paired_get' p (show xs[i]? = some a by rw [List.getElem?_eq_getElem hi, e])
  exact ⟨y, r⟩
theorem ixN_nat {n m : Nat} (h : m < n) : ixN n (m : Int) = some m := by
  unfold ixN
  rw [if_pos (Int.natCast_nonneg m), if_pos (by omega)]
  rfl
abbrev N_law_behind : List Str := ["floor", "down", "across", "found", "y", "x", "rows", "row"]
theorem sc_law_behind : FnScope N_law_behind ["floor", "down", "across"] (defScope s_law_behind) := ⟨rfl, rfl, rfl, by decide +kernel, rfl, by decide +kernel, by decide +kernel⟩
def t_law_behind (c : Cn) : TS :=
  (tSeq (tAsg (tLst tNil) (gName 3))
  (tSeq (tFor (iRng1 (tCons (tOp bSub (tCB (kLen c.K) (tCons (tVar 0) tNil)) (tVar 1)) tNil)) (gName 4)
  (tFor (iRng1 (tCons (tOp bSub (tCB (kLen c.K) (tCons (tOp (bIx c.P c.w c.K) (tVar 0) (tC (.int 0))) tNil)) (tVar 2)) tNil)) (gName 5)
  (tIfS (tAnd (tTest (tOp (cEq c.K) (tOp (bIx c.P c.w c.K) (tOp (bIx c.P c.w c.K) (tVar 0) (tVar 4)) (tVar 5)) (tC (.str ".")))) (tTest (tOp (cEq c.K) (tOp (bIx c.P c.w c.K) (tOp (bIx c.P c.w c.K) (tVar 0) (tOp (bAdd c.K) (tVar 4) (tVar 1))) (tOp (bAdd c.K) (tVar 5) (tVar 2))) (tC (.str ".")))))
  (tSeq (tAsg (tLc (iAny c.K (tVar 0)) (gName 7) tYes (tCB kListS (tCons (tVar 7) tNil)) [7]) (gName 6))
  (tSeq (tAsg (tC (.str "#")) (gSub (tOp (bIx c.P c.w c.K) (tVar 6) (tVar 4)) (tVar 5) (bSet c.P c.w)))
  (tSeq (tAsg (tC (.str "#")) (gSub (tOp (bIx c.P c.w c.K) (tVar 6) (tOp (bAdd c.K) (tVar 4) (tVar 1))) (tOp (bAdd c.K) (tVar 5) (tVar 2)) (bSet c.P c.w)))
  (tDrop (tBM c.K "list" rAppend (tVar 3) (tCons (tLc (iAny c.K (tVar 6)) (gName 7) tYes (tBM c.K "str" (rJoin c.K) (tC (.str "")) (tCons (tVar 7) tNil)) [7]) tNil))))))
  tNext)))
  (tRet (tVar 3))))
def sp_law_behind (c : Cn) : Sp := fun vs H Q E => vs.length = 3 ∧ ∃ (f : Addr) (s : Bool) (rows : List (List Nat)), vs = [.ref f, .int (dn s), .int (ac s)] ∧ H f = some (.lst (lR rows)) ∧ OkFl rows ∧
  ∀ (H' : Hp) (p : Addr) (qs : List Addr) (rss : List (List (List Nat))), Keep Nil H H' → H p = none → H' p = some (.lst (qs.map V.ref)) → Paired (FlAt H') qs rss → rss.length ≤ 24 → (∀ q ∈ qs, H q = none) → (∀ z, z ∈ rss ↔ ∃ y x, Cnd s rows y x ∧ z = brick s rows y x) → Q (.ref p) H'
theorem p_law_behind {c : Cn} {mg : Str → Option Value} (T : Txt c mg) {vs : List V} {H : Hp} {Q : VK} {E : XK} (h : sp_law_behind c vs H Q E) : t_law_behind c { nx := fun _ H' => Q .non H', rt := Q } (start N_law_behind vs) H := by
  obtain ⟨_, f, s, rows, rfl, ef, ok, k⟩ := h
  obtain ⟨r1, r4, w, w1, w6, okr⟩ := id ok
  have ll : (lR rows).length = rows.length := List.length_map ..
  have hdn : 0 ≤ dn s ∧ dn s ≤ 1 := by cases s <;> decide
  have hac : 0 ≤ ac s ∧ ac s ≤ 1 := by cases s <;> decide
  obtain ⟨r0, hr0⟩ : ∃ r0, rows[0]? = some r0 := ⟨_, List.getElem?_eq_getElem (by omega)⟩
  have rl0 := (okr r0 (List.mem_of_getElem? hr0)).1
  have lat : ∀ {y : Nat} {r : List Nat}, rows[y]? = some r → atI (lR rows) (y : Int) = some (.str (tS r)) := fun h => atI_get (by unfold lR; rw [List.getElem?_map, h]; rfl) rfl
  have hat0 : atI (lR rows) 0 = some (.str (tS r0)) := lat hr0
  have b0 : (tS r0).length ≤ 100000 := by rw [tS_len]; omega
  have e0 : (tS r0).length = w := by rw [tS_len, rl0]
  unfold t_law_behind
  repeat kaf_suf
  intro fo hfo
  have kf : Keep Nil H (upd H fo (.lst [])) := Keep.alloc hfo
  have efo : (upd H fo (.lst [])) fo = some (.lst []) := upd_same
  generalize upd H fo (.lst []) = H0 at kf efo ⊢
  have ef0 := kf.get (fun z => z) ef
  repeat kaf_suf
  refine for_range (lo := 0) (n := (((lR rows).length : Int) - dn s).toNat) (fun i σ H' => ∃ (x4 x5 x6 x7 : Option V) (qs : List Addr) (rss : List (List (List Nat))), σ = [some (.ref f), some (.int (dn s)), some (.int (ac s)), some (.ref fo), x4, x5, x6, x7] ∧ Keep Nil H H' ∧ H' fo = some (.lst (qs.map V.ref)) ∧ Paired (FlAt H') qs rss ∧ rss.length ≤ 6 * i ∧ (∀ q ∈ qs, H q = none ∧ q ≠ fo) ∧ ∀ z, z ∈ rss ↔ ∃ y x, y < i ∧ Cnd s rows y x ∧ z = brick s rows y x) ⟨_, _, _, _, [], [], rfl, kf, efo, .nil, Nat.le_refl _, (fun q h => nomatch h), fun z => ⟨(fun h => nomatch h), fun ⟨y, x, h, _⟩ => absurd h (Nat.not_lt_zero _)⟩⟩ ?_ ?_
  rotate_left
  · rintro σ H1 ⟨x4, x5, x6, x7, qs, rss, rfl, k1, e1, p1, rl, qn, rm⟩
    repeat kaf_suf
    refine k H1 fo qs rss k1 hfo e1 p1 (by omega) (fun q h => (qn q h).1) fun z => ?_
    rw [rm]
    constructor
    · rintro ⟨y, x, _, c, e⟩; exact ⟨y, x, c, e⟩
    · rintro ⟨y, x, c, e⟩
      refine ⟨y, x, ?_, c, e⟩
      have := sg_lt c.2
      omega
  rintro i σ H1 hi ⟨x4, x5, x6, x7, qs, rss, rfl, k1, e1, p1, rl, qn, rm⟩
  rw [show (0 + (i : Int)) = (i : Int) from Int.zero_add _]
  clear ef0 kf efo
  have ef1 := k1.get (fun z => z) ef
  repeat kaf_suf
  refine for_range (lo := 0) (n := (((tS r0).length : Int) - ac s).toNat) (fun j σ H' => ∃ (x5 x6 x7 : Option V) (qs : List Addr) (rss : List (List (List Nat))), σ = [some (.ref f), some (.int (dn s)), some (.int (ac s)), some (.ref fo), some (.int (i : Int)), x5, x6, x7] ∧ Keep Nil H H' ∧ H' fo = some (.lst (qs.map V.ref)) ∧ Paired (FlAt H') qs rss ∧ rss.length ≤ 6 * i + j ∧ (∀ q ∈ qs, H q = none ∧ q ≠ fo) ∧ ∀ z, z ∈ rss ↔ ∃ y x, (y < i ∨ (y = i ∧ x < j)) ∧ Cnd s rows y x ∧ z = brick s rows y x) ⟨_, _, _, qs, rss, rfl, k1, e1, p1, by omega, qn, fun z => ?_⟩ ?_ ?_
  · rw [rm]
    constructor
    · rintro ⟨y, x, h, r⟩; exact ⟨y, x, .inl h, r⟩
    · rintro ⟨y, x, h, r⟩; exact ⟨y, x, by omega, r⟩
  rotate_left
  · rintro σ H2 ⟨x5, x6, x7, qs, rss, rfl, k2, e2, p2, rl2, qn2, rm2⟩
    repeat kaf_suf
    refine ⟨_, _, _, _, qs, rss, rfl, k2, e2, p2, by omega, qn2, fun z => ?_⟩
    rw [rm2]
    constructor
    · rintro ⟨y, x, h, r⟩; exact ⟨y, x, by omega, r⟩
    · rintro ⟨y, x, h, r⟩
      refine ⟨y, x, ?_, r⟩
      by_cases z : y < i
      · exact .inl z
      · refine .inr ⟨by omega, ?_⟩
        obtain ⟨⟨_, c2⟩, _⟩ := r
        unfold sg at c2
        have hl := (List.getElem?_eq_some_iff.mp c2).1
        have : (rows[y + (dn s).toNat]?.getD []).length ≤ w := by
          cases e : rows[y + (dn s).toNat]? with
          | none => simp
          | some r => exact Nat.le_of_eq (okr r (List.mem_of_getElem? e)).1
        omega
  clear k1 e1 p1 rl qn rm ef1 qs rss
  rintro j σ H2 hj ⟨x5, x6, x7, qs, rss, rfl, k2, e2, p2, rl2, qn2, rm2⟩
  rw [show (0 + (j : Int)) = (j : Int) from Int.zero_add _]
  have ef2 := k2.get (fun z => z) ef
  obtain ⟨r, hr⟩ : ∃ r, rows[i]? = some r := ⟨_, List.getElem?_eq_getElem (by omega)⟩
  have rw_ := (okr r (List.mem_of_getElem? hr)).1
  obtain ⟨ch, hch⟩ : ∃ ch, r[j]? = some ch := ⟨_, List.getElem?_eq_getElem (by omega)⟩
  obtain ⟨i2, hi2⟩ : ∃ i2 : Nat, i2 = i + (dn s).toNat := ⟨_, rfl⟩
  obtain ⟨j2, hj2⟩ : ∃ j2 : Nat, j2 = j + (ac s).toNat := ⟨_, rfl⟩
  have ei2 : (i : Int) + dn s = (i2 : Int) := by omega
  have ej2 : (j : Int) + ac s = (j2 : Int) := by omega
  obtain ⟨r2, hr2⟩ : ∃ r, rows[i2]? = some r := ⟨_, List.getElem?_eq_getElem (by omega)⟩
  have rw2 := (okr r2 (List.mem_of_getElem? hr2)).1
  obtain ⟨ch2, hch2⟩ : ∃ ch, r2[j2]? = some ch := ⟨_, List.getElem?_eq_getElem (by omega)⟩
  have h1 := lat hr
  have h2 := lat hr2
  have c1 : atI (tS r).cps.toList (j : Int) = some ch := atI_getG hch rfl
  have c2 : atI (tS r2).cps.toList (j2 : Int) = some ch2 := atI_getG hch2 rfl
  have br : (tS r).length ≤ 100000 := by rw [tS_len]; omega
  have br2 : (tS r2).length ≤ 100000 := by rw [tS_len]; omega
  have cnd : Cnd s rows i j ↔ (ch = 46 ∧ ch2 = 46) := by
    unfold Cnd sg
    rw [← hi2, ← hj2, hr, hr2]
    show (r[j]? = some 46 ∧ r2[j2]? = some 46) ↔ _
    rw [hch, hch2]
    simp
  have step : ∀ z, (∃ y x, (y < i ∨ (y = i ∧ x < j + 1)) ∧ Cnd s rows y x ∧ z = brick s rows y x) ↔ (z ∈ rss ∨ (Cnd s rows i j ∧ z = brick s rows i j)) := fun z => by
    rw [rm2]
    constructor
    · rintro ⟨y, x, h, r⟩
      by_cases e : y = i ∧ x = j
      · obtain ⟨rfl, rfl⟩ := e
        exact .inr r
      · exact .inl ⟨y, x, by omega, r⟩
    · rintro (⟨y, x, h, r⟩ | r)
      · exact ⟨y, x, by omega, r⟩
      · exact ⟨i, j, .inr ⟨rfl, Nat.lt_succ_self _⟩, r⟩
  have h2' : atI (lR rows) ((i : Int) + dn s) = some (.str (tS r2)) := by rw [ei2]; exact h2
  have c2' : atI (tS r2).cps.toList ((j : Int) + ac s) = some ch2 := by rw [ej2]; exact c2
  refine r_gname (r_if (r_andP (Cnd s rows i j) (fun hc => ?_) (fun hc => ?_) fun R' hT hF => ?_))
  rotate_left 2
  · repeat kaf_suf
    rw [show decide (T1 ch = ".") = decide (ch = 46) from T1_dec ch 46]
    refine r_ite (fun h46 => ?_) (fun h46 => hF fun z => h46 (cnd.mp z).1)
    repeat kaf_suf
    rw [show decide (T1 ch2 = ".") = decide (ch2 = 46) from T1_dec ch2 46]
    exact absQB (fun h => hT (cnd.mpr ⟨h46, h⟩)) (fun h => hF fun z => h (cnd.mp z).2)
  rotate_left
  · refine r_ite_ff ?_
    repeat kaf_suf
    exact ⟨_, _, _, qs, rss, rfl, k2, e2, p2, by omega, qn2, fun z => ⟨fun h => (step z).mpr (.inl h), fun h => ((step z).mp h).elim id fun q => absurd q.1 hc⟩⟩
  refine r_ite_tt ?_
  repeat kaf_suf
  intro D hD
  refine lc_list (xs := lR rows) (fun m H' => ∃ ws : List Addr, Keep Nil H2 H' ∧ H' D = some (.lst (ws.map V.ref)) ∧ Paired (SrAt H') ws (rows.take m) ∧ ws.Nodup ∧ ∀ u ∈ ws, H2 u = none ∧ u ≠ D) ⟨[], Keep.alloc hD, upd_same, .nil, List.nodup_nil, fun u h => nomatch h⟩ ?_ ?_ ?_
  · rintro m H' _ ⟨_, k3, _⟩
    exact SqL.of (k3.get (fun z => z) ef2)
  · rintro m x H3 hm ⟨ws, k3, e3, p3, nd3, wn3⟩
    obtain ⟨rr, hrr, rfl⟩ := Option.map_eq_some_iff.mp (show (rows[m]?).map (fun r => V.str (tS r)) = some x by rw [← List.getElem?_map]; exact hm)
    have brm : (tS rr).length ≤ 100000 := by rw [tS_len, (okr rr (List.mem_of_getElem? hrr)).1]; omega
    have wl := Paired.length p3
    rw [List.length_take] at wl
    repeat kaf_suf
    refine ⟨rfl, ?_⟩
    repeat kaf_suf
    intro q hq
    have kq : Keep Nil H3 (upd H3 q (.lst ((tS rr).cps.toList.map fun c => V.str (T1 c)))) := Keep.alloc hq
    have eq : (upd H3 q (.lst ((tS rr).cps.toList.map fun c => V.str (T1 c)))) q = some (.lst (rr.map fun c => V.str (T1 c))) := upd_same
    generalize upd H3 q (.lst ((tS rr).cps.toList.map fun c => V.str (T1 c))) = H4 at kq eq ⊢
    have e4 := kq.get (fun z => z) e3
    have nqD : q ≠ D := ne_new hq e3
    have nq2 : H2 q = none := keep_none k3 hq
    refine ⟨_, e4, few1 (by rw [List.length_map]; omega), ws ++ [q], (k3.trans kq).setN hD, by rw [List.map_append]; exact upd_same, ?_, ?_, fun u hu => ?_⟩
    · rw [List.take_succ, hrr]
      exact Paired.snoc (paired_keepM p3 fun u hu r h => get_set (wn3 u hu).2 (kq.get (fun z => z) h)) (get_set nqD eq)
    · refine List.nodup_append.mpr ⟨nd3, List.nodup_cons.mpr ⟨List.not_mem_nil, List.nodup_nil⟩, fun a ha b hb z => ?_⟩
      rw [List.mem_singleton] at hb
      subst hb
      subst z
      obtain ⟨r, h⟩ := paired_mem p3 ha
      unfold SrAt at h
      rw [hq] at h; cases h
    · rcases List.mem_append.mp hu with hu | hu
      · exact wn3 u hu
      · rw [List.mem_singleton] at hu
        subst hu
        exact ⟨nq2, nqD⟩
  rintro H3 ⟨ws, k3, e3, p3, nd3, wn3⟩
  rw [ll, List.take_length] at p3
  have wl := Paired.length p3
  obtain ⟨wi, hwi, swi⟩ := paired_get p3 hr
  have hati : atI (ws.map V.ref) (i : Int) = some (.ref wi) := atI_get (n := i) (by rw [List.getElem?_map, hwi]; rfl) rfl
  have six : ixN (r.map fun c => V.str (T1 c)).length (j : Int) = some j := ixN_nat (by rw [List.length_map]; omega)
  have nwi := wn3 wi (List.mem_of_getElem? hwi)
  have e2' := k3.get (fun z => z) e2
  repeat kaf_suf
  have p4 := SrAt.set (x := j) p3 nd3 hwi hr
  have k4 : Keep Nil H2 (upd H3 wi (.lst ((r.map fun c => V.str (T1 c)).set j (.str "#")))) := k3.setN nwi.1
  have e4 : (upd H3 wi (.lst ((r.map fun c => V.str (T1 c)).set j (.str "#")))) D = some (.lst (ws.map V.ref)) := get_set (fun z => nwi.2 z.symm) e3
  generalize upd H3 wi (.lst ((r.map fun c => V.str (T1 c)).set j (.str "#"))) = H4 at p4 k4 e4 ⊢
  clear p3 k3 e3 swi e2'
  obtain ⟨r2', hr2'⟩ : ∃ r', (shut rows i j)[i2]? = some r' := ⟨_, List.getElem?_eq_getElem (by rw [shut_len]; exact (List.getElem?_eq_some_iff.mp hr2).1)⟩
  have rw2' : r2'.length = w := by
    have := shut_w rows i j i2
    rw [hr2', hr2] at this
    exact this.trans rw2
  obtain ⟨wi2, hwi2, swi2⟩ := paired_get p4 hr2'
  have hati2 : atI (ws.map V.ref) ((i : Int) + dn s) = some (.ref wi2) := atI_get (n := i2) (by rw [List.getElem?_map, hwi2]; rfl) ei2
  have six2 : ixN (r2'.map fun c => V.str (T1 c)).length ((j : Int) + ac s) = some j2 := by rw [ej2]; exact ixN_nat (by rw [List.length_map]; omega)
  have nwi2 := wn3 wi2 (List.mem_of_getElem? hwi2)
  repeat kaf_suf
  have p5 := SrAt.set (x := j2) p4 nd3 hwi2 hr2'
  rw [show shut (shut rows i j) i2 j2 = brick s rows i j by rw [hi2, hj2]; rfl] at p5
  have k5 : Keep Nil H2 (upd H4 wi2 (.lst ((r2'.map fun c => V.str (T1 c)).set j2 (.str "#")))) := k4.setN nwi2.1
  have e5 : (upd H4 wi2 (.lst ((r2'.map fun c => V.str (T1 c)).set j2 (.str "#")))) D = some (.lst (ws.map V.ref)) := get_set (fun z => nwi2.2 z.symm) e4
  generalize upd H4 wi2 (.lst ((r2'.map fun c => V.str (T1 c)).set j2 (.str "#"))) = H5 at p5 k5 e5 ⊢
  clear p4 k4 e4 swi2 hati six hati2 six2
  have e25 := k5.get (fun z => z) e2
  have okb : OkFl (brick s rows i j) := brick_ok ok i j
  obtain ⟨bl1, bl4, bw, _, bw6, okbr⟩ := okb
  repeat kaf_suf
  intro L hL
  refine lc_list (xs := ws.map V.ref) (fun m H' => Keep Nil H5 H' ∧ H' L = some (.lst (lR ((brick s rows i j).take m)))) ⟨Keep.alloc hL, upd_same⟩ ?_ ?_ ?_
  · rintro m H' _ ⟨k6, _⟩
    exact SqL.of (k6.get (fun z => z) e5)
  · rintro m x H6 hm ⟨k6, e6⟩
    rw [List.getElem?_map] at hm
    obtain ⟨u, hu, rfl⟩ := Option.map_eq_some_iff.mp hm
    obtain ⟨rr, hrr, su⟩ := paired_get' p5 hu
    have su6 := k6.get (fun z => z) su
    have rrl := (okbr rr (List.mem_of_getElem? hrr)).1
    have hml := (List.getElem?_eq_some_iff.mp hrr).1
    repeat kaf_suf
    refine ⟨rfl, ?_⟩
    repeat kaf_suf
    refine v_joinL (ys := rr.map T1) (by rw [List.map_map]; exact su6) (by rw [join_len]; omega) ?_
    rw [join_signs]
    refine ⟨_, e6, few1 (by unfold lR; rw [List.length_map, List.length_take]; omega), k6.setN hL, ?_⟩
    rw [upd_same, List.take_succ, hrr]
    unfold lR
    rw [List.map_append]
    rfl
  rintro H6 ⟨k6, e6⟩
  have p5l := Paired.length p5
  rw [List.take_of_length_le (by rw [List.length_map]; omega)] at e6
  have e26 := k6.get (fun z => z) e25
  have ql := Paired.length p2
  have nLfo : L ≠ fo := ne_new hL e25
  have nL0 : H L = none := keep_none (k2.trans k5) hL
  refine r_nil (v_append e26 (few1 (by rw [List.length_map]; omega)) ?_)
  repeat kaf_suf
  refine ⟨_, _, _, qs ++ [L], rss ++ [brick s rows i j], rfl, ((k2.trans k5).trans k6).setN hfo, by rw [List.map_append]; exact upd_same, ?_, by rw [List.length_append]; show rss.length + 1 ≤ _; omega, fun q hq => ?_, fun z => ?_⟩
  · exact Paired.snoc (paired_keepM p2 fun q hq rs h => get_set (qn2 q hq).2 ((k5.trans k6).get (fun z => z) h)) (get_set nLfo e6)
  · rcases List.mem_append.mp hq with hq | hq
    · exact qn2 q hq
    · rw [List.mem_singleton] at hq
      subst hq
      exact ⟨nL0, nLfo⟩
  · rw [step, List.mem_append, List.mem_singleton]
    exact ⟨fun h => h.imp id fun e => ⟨hc, e⟩, fun h => h.imp id fun e => e.2⟩
theorem cal_law_behind {c : Cn} {mg : Str → Option Value} {base : Heap} (T : Txt c mg) : Cal c.P c.w c.K mg base CX0 1 "_law_behind" (sp_law_behind c) := by
  obtain ⟨f, fd, F, g, b⟩ := T.F_law_behind
  exact ⟨f, fd, ["floor", "down", "across"], F.ok (k := 0) (N := N_law_behind) sc_law_behind (fun vs H Q E h => h.1) (fun cdv A outer s H vs Q E hr h => ⟨t_law_behind c, by
  exact (pss_cons (ps_set (i := 3) sc_law_behind.nd rfl (Or.inl rfl) (pe_lst pa_nil))
  (pss_cons (ps_for PassesOwn.never rfl (pi_range1 rfl T.n_range (pa_cons (pe_op o_sub (pe_callB k_len (by rfl) T.n_len (by decide +kernel) (pa_cons (pv 0) pa_nil)) (pv 1)) pa_nil)) (pg_name (i := 4) sc_law_behind.nd rfl (Or.inl rfl))
  (pss_one (ps_for PassesOwn.never rfl (pi_range1 rfl T.n_range (pa_cons (pe_op o_sub (pe_callB k_len (by rfl) T.n_len (by decide +kernel) (pa_cons (pe_ix (x_ix (hu64 hr)) (pv 0) pe_int (fun _ _ => rfl)) pa_nil)) (pv 2)) pa_nil)) (pg_name (i := 5) sc_law_behind.nd rfl (Or.inl rfl))
  (pss_one (ps_if (PW.pt (pw_and (pt_cmpR (o_eq (hu64 hr)) (pe_ix (x_ix (hu64 hr)) (pe_ix (x_ix (hu64 hr)) (pv 0) (pv 4) (fun _ _ => rfl)) (pv 5) (fun _ _ => rfl)) pe_str (nomark _)) (pw_and1 (pt_cmpR (o_eq (hu64 hr)) (pe_ix (x_ix (hu64 hr)) (pe_ix (x_ix (hu64 hr)) (pv 0) (pe_op o_add (pv 4) (pv 1)) (fun _ _ => rfl)) (pe_op o_add (pv 5) (pv 2)) (fun _ _ => rfl)) pe_str (nomark _))))) (pss_cons (ps_setLc (i := 6) (own := [("row", 7)]) rfl sc_law_behind.nd rfl rfl (sw_true rfl rfl rfl (by decide +kernel)) (pi_any (pv 0)) (blkOk_by (own := [("row", 7)]) (N := N_law_behind) (sc := defScope s_law_behind) (by decide +kernel)) (fun _ _ _ _ _ => (pg_name (i := 7) sc_law_behind.nd rfl (Or.inl rfl))) (fun _ _ _ _ _ => pts_nil) (fun _ _ _ _ _ => (pe_callTy (k_listS rfl) (by rfl) T.n_list (by decide +kernel) (pa_cons (pv 7) pa_nil))))
  (pss_cons (ps_asg pe_str (pg_sub (pe_ix (x_ix (hu64 hr)) (pv 6) (pv 4) (fun _ _ => rfl)) (pv 5) (s_set (hu64 hr))))
  (pss_cons (ps_asg pe_str (pg_sub (pe_ix (x_ix (hu64 hr)) (pv 6) (pe_op o_add (pv 4) (pv 1)) (fun _ _ => rfl)) (pe_op o_add (pv 5) (pv 2)) (s_set (hu64 hr))))
  (pss_one (ps_expr (pe_bm PySem.F.plainAttrs_list PySem.F.slot_list_append PySem.F.type_list_append mt_append (pv 3) (pa_cons (pe_lc (own := [("row", 7)]) rfl sc_law_behind.nd (pi_any (pv 6)) (blkOk_by (own := [("row", 7)]) (N := N_law_behind) (sc := defScope s_law_behind) (by decide +kernel)) (fun _ _ _ _ _ => (pg_name (i := 7) sc_law_behind.nd rfl (Or.inl rfl))) (fun _ _ _ _ _ => pts_nil) (fun _ _ _ _ _ => (pe_bm PySem.F.plainAttrs_str PySem.F.slot_str_join PySem.F.type_str_join mt_join pe_str (pa_cons (pv 7) pa_nil)))) pa_nil))))))) pss_nil)))))
  (pss_one (ps_ret (pv 3))))), p_law_behind T h⟩), g, F.kp, b⟩

/-! a floor's game, its moves, its depth -/
def FlsAt (M : Addr → Prop) (H : Hp) (p : Addr) (s : Bool) (rows : List (List Nat)) : Prop := ∃ (qs : List Addr) (rss : List (List (List Nat))), H p = some (.lst (qs.map V.ref)) ∧ ¬ M p ∧ Paired (FlAt H) qs rss ∧ (∀ q ∈ qs, ¬ M q) ∧ rss.length ≤ 24 ∧ ∀ z, z ∈ rss ↔ ∃ y x, Cnd s rows y x ∧ z = brick s rows y x
theorem FlsAt.keep {M : Addr → Prop} {H H' : Hp} {p : Addr} {s : Bool} {rows : List (List Nat)} (h : FlsAt M H p s rows) (k : Keep M H H') : FlsAt M H' p s rows := by
  obtain ⟨qs, rss, e, n, pq, qn, rl, rm⟩ := h
  exact ⟨qs, rss, k _ _ n e, n, paired_keepM pq fun q hq rs h => k _ _ (qn q hq) h, qn, rl, rm⟩
theorem FlsAt.of {M : Addr → Prop} {H H' : Hp} {p : Addr} {s : Bool} {rows : List (List Nat)} {qs : List Addr} {rss : List (List (List Nat))} (nM : ∀ {x : Addr}, H x = none → ¬ M x) (hp : H p = none) (e : H' p = some (.lst (qs.map V.ref))) (pq : Paired (FlAt H') qs rss) (rl : rss.length ≤ 24) (qn : ∀ q ∈ qs, H q = none)
    (rm : ∀ z, z ∈ rss ↔ ∃ y x, Cnd s rows y x ∧ z = brick s rows y x) : FlsAt M H' p s rows := ⟨qs, rss, e, nM hp, pq, fun q h => nM (qn q h), rl, rm⟩
theorem games_lcF {c : Cn} {mg : Str → Option Value} (T : Txt c mg) {b p : Addr} {M : Addr → Prop} {gs : List Gm} {ds : List Int} {s : Bool} {rows : List (List Nat)} {F0 : Fl} {n0 : Nat} {x1 x2 x3 x4 x5 x6 x7 x8 x9 : Option V} {H : Hp} {Q : VK}
    (B : BookAt c H b M gs ds) (I : InvF F0 n0 gs) (ok : OkFl rows) (sub : (frOf rows).Sublist F0) (l10 : F0.length ≤ 10) (n4 : n0 ≤ 40000) (fs : FlsAt M H p s rows)
    (k : ∀ (H' : Hp) (f : List Gm) (e : List Int) (q : Addr) (ms : List Int), Keep M H H' → BookAt c H' b M (gs ++ f) (ds ++ e) → InvF F0 n0 (gs ++ f) → H q = none → H' q = some (.lst (ms.map V.int)) → ms.length ≤ 24 → MsS (gs ++ f) s (frOf rows) ms → Q (.ref q) H') :
    kLc (Itl c.K p) (gName 8) tYes (tCall (sp_floor_game c) [] E0 (tCons (tVar 0) (tCons (tVar 8) tNil))) [8] [some (.ref b), x1, x2, x3, x4, x5, x6, x7, x8, x9] H Q := by
  obtain ⟨qs, rss, ep, np, pq, qn, rl, rm⟩ := fs
  intro D hD
  have nD : ¬ M D := B.new hD
  have ql := Paired.length pq
  refine lc_list (xs := qs.map V.ref) (fun j H' => ∃ (f : List Gm) (e : List Int) (ms : List Int), Keep M H H' ∧ BookAt c H' b M (gs ++ f) (ds ++ e) ∧ InvF F0 n0 (gs ++ f) ∧ H' D = some (.lst (ms.map V.int)) ∧ Paired (fun m x => ∃ g : Nat, m = (g : Int) ∧ SG (gs ++ f) (frOf x) g) ms (rss.take j)) ⟨[], [], [], Keep.alloc hD, by rw [List.append_nil, List.append_nil]; exact B.same (Keep.alloc hD), by rw [List.append_nil]; exact I, upd_same, .nil⟩ ?_ ?_ ?_
  · rintro j H' _ ⟨_, _, _, k1, _⟩
    exact SqL.of (k1 _ _ np ep)
  · rintro j x H1 hj ⟨f, e, ms, k1, B1, I1, eD, pm⟩
    rw [List.getElem?_map] at hj
    obtain ⟨q, hjq, rfl⟩ := Option.map_eq_some_iff.mp hj
    obtain ⟨rs, hrs, eq⟩ := paired_get' pq hjq
    have nq := qn q (List.mem_of_getElem? hjq)
    have eq1 := k1 _ _ nq eq
    obtain ⟨y, x, cn, rfl⟩ := (rm rs).mp (List.mem_of_getElem? hrs)
    have mv := cnd_mv.mp ⟨y, x, cn, rfl⟩
    have pl := Paired.length pm
    have hjl := (List.getElem?_eq_some_iff.mp hrs).1
    rw [List.length_take] at pl
    repeat kaf_suf
    refine ⟨rfl, ?_⟩
    repeat kaf_suf
    refine ⟨rfl, b, q, M, _, _, brick s rows y x, F0, n0, rfl, B1, I1, eq1, brick_ok ok y x, mv.sub.trans sub, l10, n4, fun H2 f2 e2 g2 k2 B2 I2 sg => ?_⟩
    have eD2 := k2 _ _ nD eD
    repeat kaf_suf
    have kD : Keep (fun y => y = D) H2 (upd H2 D (.lst (ms.map V.int ++ [.int g2]))) := Keep.refl.set rfl
    refine ⟨ms.map V.int, eD2, few1 (by rw [List.length_map]; omega), f ++ f2, e ++ e2, ms ++ [(g2 : Int)], (k1.trans k2).setN hD, ?_, ?_, by rw [List.map_append]; exact upd_same, ?_⟩
    · rw [← List.append_assoc, ← List.append_assoc]
      exact B2.keep kD (fun x z => by cases z; exact ⟨_, eD2⟩) fun x m z => nD (z ▸ m)
    · rw [← List.append_assoc]; exact I2
    · rw [List.take_succ, hrs, ← List.append_assoc]
      exact Paired.snoc (paired_keep pm fun m x ⟨g, e, h⟩ => ⟨g, e, h.more⟩) ⟨g2, rfl, sg⟩
  · rintro H' ⟨f, e, ms, k1, B1, I1, eD, pm⟩
    rw [List.take_of_length_le (by rw [List.length_map]; omega)] at pm
    refine k _ f e D ms k1 B1 I1 hD eD (by rw [Paired.length pm]; exact rl) ⟨fun x mv => ?_, fun z hz => ?_⟩
    · obtain ⟨y, a, cn, rfl⟩ := cnd_mv.mpr mv
      obtain ⟨i, hi, ei⟩ := List.getElem_of_mem ((rm (brick s rows y a)).mpr ⟨y, a, cn, rfl⟩)
      obtain ⟨m, hm, g, rfl, sg⟩ := paired_get pm (show rss[i]? = some (brick s rows y a) by rw [List.getElem?_eq_getElem hi, ei])
      exact ⟨g, List.mem_of_getElem? hm, sg⟩
    · obtain ⟨i, hi, ei⟩ := List.getElem_of_mem hz
      obtain ⟨x, hx', g, rfl, sg⟩ := paired_get' pm (show ms[i]? = some z by rw [List.getElem?_eq_getElem hi, ei])
      obtain ⟨y, a, cn, rfl⟩ := (rm x).mp (List.mem_of_getElem? hx')
      exact ⟨_, g, cnd_mv.mp ⟨y, a, cn, rfl⟩, rfl, sg⟩
theorem depth_of {gs : List Gm} {ds : List Int} (o : GOk gs) (d : DOk gs ds) {x : Nat} {ms : List Int} {g : Gm} {e : Int} (hg : gs[x]? = some g) (he : ds[x]? = some e) (h : ∀ z, z ∈ g.1 ++ g.2 ↔ z ∈ ms) {m : Int}
    (hm : m ∈ 0 :: (dps ds ms).map fun x => 1 + x) (hmax : ∀ y, y ∈ 0 :: ((dps ds ms).map fun x => 1 + x) → y ≤ m) : e = m := by
  obtain ⟨d1, d2, d3⟩ := d.at_ x g e hg he
  have p0 := DOk.pos o d (x + 1) x (by omega) e he
  have hd : ∀ z, z ∈ dps ds (g.1 ++ g.2) ↔ z ∈ dps ds ms := fun z => by
    unfold dps
    rw [List.mem_map, List.mem_map]
    exact ⟨fun ⟨a, ha, hb⟩ => ⟨a, (h a).mp ha, hb⟩, fun ⟨a, ha, hb⟩ => ⟨a, (h a).mpr ha, hb⟩⟩
  have h1 : m ≤ e := by
    rcases List.mem_cons.mp hm with h | h
    · omega
    · obtain ⟨x, hx, rfl⟩ := List.mem_map.mp h
      have := d2 x ((hd x).mpr hx); omega
  have h2 : e ≤ m := by
    by_cases z : g.1 ++ g.2 = []
    · have := d1 z
      have := hmax 0 List.mem_cons_self
      omega
    · obtain ⟨x, hx, ex⟩ := d3 z
      have := hmax (1 + x) (List.mem_cons_of_mem _ (List.mem_map.mpr ⟨x, (hd x).mp hx, rfl⟩))
      omega
  omega
theorem v_eqB {K : PySem.W.Frag} {H : Hp} {Q : VK} {a b : Bool} (k : Q (.bl (decide (a = b))) H) : cEq K (.bl a) (.bl b) H Q := .inl ⟨rfl, by
  have e : decide (V.bl a = V.bl b) = decide (a = b) := by
    by_cases h : a = b
    · subst h; simp
    · rw [decide_eq_false h, decide_eq_false (fun z => h (V.bl.inj z))]
  rw [e]; exact k⟩
theorem dFl_sh {l : List (List (List Nat))} (o : ∀ x ∈ l, OkFl x) : SeqAt.shaped (.list (l.map dTx)) = true := by
  have one : ∀ {x : List (List Nat)}, OkFl x → (dTx x).canLay0 = true ∧ (dTx x).depth ≤ 1 := fun {x} ok => by
    have h : ∀ x : List (List Nat), (∀ r ∈ x, ∀ c ∈ r, c < 1114112) → PyData.canLayAll0 (x.map fun r => PyData.str (tS r)) = true ∧ PyData.depthAll (x.map fun r => PyData.str (tS r)) = 0 := fun x o => by
      induction x with
      | nil => simp [PyData.canLayAll0, PyData.depthAll]
      | cons a r ih =>
        obtain ⟨h1, h2⟩ := ih fun x hx => o x (List.mem_cons_of_mem _ hx)
        have h3 := ok_strOkA (o a List.mem_cons_self)
        constructor
        · simp only [List.map_cons, PyData.canLayAll0, h1, h3, Bool.and_self]
        · simp only [List.map_cons, PyData.depthAll, h2, PyData.depth, Nat.max_self]
    obtain ⟨h1, h2⟩ := h x (OkFl.sign ok)
    unfold dTx
    simp only [PyData.canLay0, PyData.depth, h1, h2]
    simp
  have h : PyData.canLayAll0 (l.map dTx) = true ∧ PyData.depthAll (l.map dTx) ≤ 1 := by
    induction l with
    | nil => simp [PyData.canLayAll0, PyData.depthAll]
    | cons a r ih =>
      obtain ⟨h1, h2⟩ := ih fun x hx => o x (List.mem_cons_of_mem _ hx)
      obtain ⟨h3, h4⟩ := one (o a List.mem_cons_self)
      simp only [List.map_cons, PyData.canLayAll0, PyData.depthAll, h1, h3, Bool.and_self, true_and]
      omega
  exact shaped_of (by simp only [PyData.canLay0]; exact h.1) (by have := h.2; simp only [PyData.depth]; omega)
theorem dpFl {K : PySem.W.Frag} {H : Hp} {p : Addr} {qs : List Addr} {rss : List (List (List Nat))} (e : H p = some (.lst (qs.map V.ref))) (pq : Paired (FlAt H) qs rss) : Dp K H (.ref p) (.list (rss.map dTx)) := by
  refine .lst (SqL.of e) ?_
  clear e
  induction pq with
  | nil => exact .nil
  | cons r _ ih => exact .cons (dpTx r) ih
theorem eqv_dFl (l : List (List (List Nat))) : PyData.eqv (.list (l.map dTx)) (.list []) = decide (l = []) := by
  cases l <;> simp [PyData.eqv, PyData.eqvAll]
theorem fls_all {s : Bool} {rows : List (List Nat)} {rss : List (List (List Nat))} (ok : OkFl rows) (rm : ∀ z, z ∈ rss ↔ ∃ y x, Cnd s rows y x ∧ z = brick s rows y x) : ∀ x ∈ rss, OkFl x := fun x hx => by
  obtain ⟨y, a, _, rfl⟩ := (rm x).mp hx
  exact brick_ok ok y a
/-- the first row shut -/
theorem row0_ok {rows : List (List Nat)} {r0 : List Nat} {n : Nat} (ok : OkFl rows) (h0 : rows[0]? = some r0) (hn : n = r0.length) : OkFl (rows.set 0 (List.replicate n 35)) ∧ (frOf (rows.set 0 (List.replicate n 35))).Sublist (frOf rows) := by
  obtain ⟨r1, r4, w, w1, w6, okr⟩ := ok
  have rl := (okr r0 (List.mem_of_getElem? h0)).1
  refine ⟨⟨by rw [List.length_set]; exact r1, by rw [List.length_set]; exact r4, w, w1, w6, fun r hr => ?_⟩, ?_⟩
  · rcases List.mem_or_eq_of_mem_set hr with hr | rfl
    · exact okr r hr
    · exact ⟨by rw [List.length_replicate]; omega, fun c hc => .inr (List.eq_of_mem_replicate hc)⟩
  · have at_ : ∀ y : Nat, (rows.set 0 (List.replicate n 35))[y]?.getD [] = if y = 0 then List.replicate n 35 else rows[y]?.getD [] := fun y => by
      rw [List.getElem?_set]
      by_cases e : y = 0
      · subst e
        rw [if_pos rfl, if_pos rfl, if_pos (by omega)]
        rfl
      · rw [if_neg (fun z => e z.symm), if_neg e]
    rw [frOf_filter (rows := rows) (fun p => decide (p.1 ≠ 0)) List.length_set (fun y => by
      rw [at_]
      split
      · rename_i e
        subst e
        rw [h0, List.length_replicate]
        exact hn
      · rfl) fun y x => by
      unfold sg
      rw [at_]
      by_cases e : y = 0
      · subst e
        rw [if_pos rfl]
        constructor
        · intro h
          have := List.mem_of_getElem? h
          have := List.eq_of_mem_replicate this
          omega
        · intro h
          exact absurd rfl (of_decide_eq_true h.2)
      · rw [if_neg e]
        constructor
        · intro h
          refine ⟨h, decide_eq_true ?_⟩
          show (y : Int) ≠ 0
          omega
        · exact fun h => h.1]
    exact List.filter_sublist
abbrev N_law_right : List Str := ["book", "floor", "handed", "found", "lefts", "rights", "again", "moves", "one", "move"]
theorem sc_law_right : FnScope N_law_right ["book", "floor"] (defScope s_law_right) := ⟨rfl, rfl, rfl, by decide +kernel, rfl, by decide +kernel, by decide +kernel⟩
def t_law_right (c : Cn) : TS :=
  (tSeq (tAsg (tCB (kList c.K) (tCons (tVar 1) tNil)) (gName 2))
  (tSeq (tIfS (tTest (tOp cIsNot (tCall (sp_is_floor c) [] E0 (tCons (tVar 2) tNil)) (tC (.bl true))))
  (tRet (tC (.bl false)))
  tNext)
  (tSeq (tAsg (tCall (sp_floor_game c) [] E0 (tCons (tVar 0) (tCons (tVar 2) tNil))) (gName 3))
  (tSeq (tIfS (tOr (tNot (tTru c.K (tCB (rIsi c.K) (tCons (tVar 3) (tCons (tC (.ty "int")) tNil))))) (tOr (tTru c.K (tCB (rIsi c.K) (tCons (tVar 3) (tCons (tC (.ty "bool")) tNil)))) (tTest (tOp (cNe c.K) (tVar 2) (tVar 1)))))
  (tRet (tC (.bl false)))
  tNext)
  (tSeq (tAsg (tOp bMulS (tC (.str "#")) (tCB (kLen c.K) (tCons (tOp (bIx c.P c.w c.K) (tVar 1) (tC (.int 0))) tNil))) (gSub (tVar 2) (tC (.int 0)) (bSet c.P c.w)))
  (tSeq (tAsg (tCall (sp_law_behind c) [] E0 (tCons (tVar 1) (tCons (tC (.int 1)) (tCons (tC (.int 0)) tNil)))) (gName 4))
  (tSeq (tAsg (tCall (sp_law_behind c) [] E0 (tCons (tVar 1) (tCons (tC (.int 0)) (tCons (tC (.int 1)) tNil)))) (gName 5))
  (tSeq (tIfS (tTest (tOp (cNe c.K) (tMeth c.cBook "lefts" (sp_Book_lefts c) [] E0 (tVar 0) (tCons (tVar 3) tNil)) (tCB (kSorted c.K c.w) (tCons (tCB (uSetI c.K c.w) (tCons (tLc (iAny c.K (tVar 4)) (gName 8) tYes (tCall (sp_floor_game c) [] E0 (tCons (tVar 0) (tCons (tVar 8) tNil))) [8]) tNil)) tNil))))
  (tRet (tC (.bl false)))
  tNext)
  (tSeq (tIfS (tTest (tOp (cNe c.K) (tMeth c.cBook "rights" (sp_Book_rights c) [] E0 (tVar 0) (tCons (tVar 3) tNil)) (tCB (kSorted c.K c.w) (tCons (tCB (uSetI c.K c.w) (tCons (tLc (iAny c.K (tVar 5)) (gName 8) tYes (tCall (sp_floor_game c) [] E0 (tCons (tVar 0) (tCons (tVar 8) tNil))) [8]) tNil)) tNil))))
  (tRet (tC (.bl false)))
  tNext)
  (tSeq (tAsg (tCall (sp_floor_game c) [] E0 (tCons (tVar 0) (tCons (tVar 2) tNil))) (gName 6))
  (tSeq (tIfS (tTest (tOp (cNe c.K) (tMeth c.cBook "lefts" (sp_Book_lefts c) [] E0 (tVar 0) (tCons (tVar 6) tNil)) (tCB (kSorted c.K c.w) (tCons (tCB (uSetI c.K c.w) (tCons (tLc (iAny c.K (tCall (sp_law_behind c) [] E0 (tCons (tVar 2) (tCons (tC (.int 1)) (tCons (tC (.int 0)) tNil))))) (gName 8) tYes (tCall (sp_floor_game c) [] E0 (tCons (tVar 0) (tCons (tVar 8) tNil))) [8]) tNil)) tNil))))
  (tRet (tC (.bl false)))
  tNext)
  (tSeq (tIfS (tTest (tOp (cNe c.K) (tMeth c.cBook "rights" (sp_Book_rights c) [] E0 (tVar 0) (tCons (tVar 6) tNil)) (tCB (kSorted c.K c.w) (tCons (tCB (uSetI c.K c.w) (tCons (tLc (iAny c.K (tCall (sp_law_behind c) [] E0 (tCons (tVar 2) (tCons (tC (.int 0)) (tCons (tC (.int 1)) tNil))))) (gName 8) tYes (tCall (sp_floor_game c) [] E0 (tCons (tVar 0) (tCons (tVar 8) tNil))) [8]) tNil)) tNil))))
  (tRet (tC (.bl false)))
  tNext)
  (tSeq (tAsg (tOp (bAdd c.K) (tMeth c.cBook "lefts" (sp_Book_lefts c) [] E0 (tVar 0) (tCons (tVar 3) tNil)) (tMeth c.cBook "rights" (sp_Book_rights c) [] E0 (tVar 0) (tCons (tVar 3) tNil))) (gName 7))
  (tSeq (tIfS (tTest (tOp (cNe c.K) (tMeth c.cBook "depth" (sp_Book_depth c) [] E0 (tVar 0) (tCons (tVar 3) tNil)) (tCB (kMax c.K) (tCons (tOp (bAdd c.K) (tLst (tCons (tC (.int 0)) tNil)) (tLc (iAny c.K (tVar 7)) (gName 9) tYes (tOp (bAdd c.K) (tC (.int 1)) (tMeth c.cBook "depth" (sp_Book_depth c) [] E0 (tVar 0) (tCons (tVar 9) tNil))) [9])) tNil))))
  (tRet (tC (.bl false)))
  tNext)
  (tRet (tAndV (tOp (cEq c.K) (tCall (sp_floor_game c) [] E0 (tCons (tVar 0) (tCons (tCB (kList c.K) (tCons (tVar 1) tNil)) tNil))) (tVar 3)) (tOp (cEq c.K) (tOp (cEq c.K) (tVar 3) (tC (.int 0))) (tOp (cEq c.K) (tOp (bAdd c.K) (tVar 4) (tVar 5)) (tLst tNil)))))))))))))))))))
def sp_law_right (c : Cn) : Sp := fun vs H Q E => vs.length = 2 ∧ ∃ (b fl : Addr) (M : Addr → Prop) (gs : List Gm) (ds : List Int) (rows : List (List Nat)), vs = [.ref b, .ref fl] ∧ BookAt c H b M gs ds ∧ gs.length ≤ 40000 ∧ H fl = some (.lst (lR rows)) ∧ ¬ M fl ∧ OkFl rows ∧ (frOf rows).length ≤ 10 ∧
  ∀ (H' : Hp) (f : List Gm) (e : List Int), Keep M H H' → BookAt c H' b M (gs ++ f) (ds ++ e) → f.length ≤ 1024 → Q (.bl true) H'
theorem p_law_right {c : Cn} {mg : Str → Option Value} (T : Txt c mg) {vs : List V} {H : Hp} {Q : VK} {E : XK} (h : sp_law_right c vs H Q E) : t_law_right c { nx := fun _ H' => Q .non H', rt := Q } (start N_law_right vs) H := by
  obtain ⟨_, b, fl, M, gs, ds, rows, rfl, B, g4, efl, nfl, ok, l10, k⟩ := h
  obtain ⟨r1, r4, w, w1, w6, okr⟩ := id ok
  have I : InvF (frOf rows) gs.length gs := by unfold InvF; omega
  have ll : (lR rows).length = rows.length := List.length_map ..
  obtain ⟨r0, hr0⟩ : ∃ r0, rows[0]? = some r0 := ⟨_, List.getElem?_eq_getElem (by omega)⟩
  have rl0 := (okr r0 (List.mem_of_getElem? hr0)).1
  have hat0 : atI (lR rows) 0 = some (.str (tS r0)) := atI_get (n := 0) (by unfold lR; rw [List.getElem?_map, hr0]; rfl) rfl
  have b0 : (tS r0).length ≤ 100000 := by rw [tS_len]; omega
  have e0 : (tS r0).length = w := by rw [tS_len, rl0]
  have six0 : ixN (lR rows).length 0 = some 0 := ixN_nat (m := 0) (by omega)
  unfold t_law_right
  repeat kaf_suf
  intro h hh
  have kh : Keep Nil H (upd H h (.lst (lR rows))) := Keep.alloc hh
  have eh : (upd H h (.lst (lR rows))) h = some (.lst (lR rows)) := upd_same
  have nh : ¬ M h := B.new hh
  have nfh : fl ≠ h := ne_old hh efl
  generalize upd H h (.lst (lR rows)) = H1 at kh eh ⊢
  have efl1 := kh.get (fun z => z) efl
  have B1 := B.same kh
  repeat kaf_suf
  refine ⟨rfl, h, rows, rfl, eh, ok, fun H2 k2 => ?_⟩
  have B2 := B1.same k2
  have eh2 := k2.get (fun z => z) eh
  have efl2 := k2.get (fun z => z) efl1
  repeat kaf_suf
  refine ⟨rfl, b, h, M, gs, ds, rows, frOf rows, gs.length, rfl, B2, I, eh2, ok, List.Sublist.refl _, l10, by omega, fun H3 f1 e1 g k3 B3 I3 sg3 => ?_⟩
  have eh3 := k3 _ _ nh eh2
  have efl3 := k3 _ _ nfl efl2
  have K3 : Keep M H H3 := ((kh.trans k2).weak).trans k3
  clear kh eh B1 efl1 k2 B2 eh2 efl2 k3 I
  repeat kaf_suf
  refine v_neD (dpTx eh3) (dpTx efl3) (dTx_shA (OkFl.sign ok)) (dTx_shA (OkFl.sign ok)) ?_
  rw [eqv_dTx_self]
  repeat kaf_suf
  refine v_mulS (mulOk_small (by decide) (by omega) (by omega)) ?_
  rw [show ("#" : Str) = T1 35 from rfl, mul_rep 35 (by omega)]
  repeat kaf_suf
  obtain ⟨rows2, hrows2⟩ : ∃ r, r = rows.set 0 (List.replicate ((tS r0).length : Int).toNat 35) := ⟨_, rfl⟩
  have elr : (lR rows).set 0 (.str (tS (List.replicate ((tS r0).length : Int).toNat 35))) = lR rows2 := by rw [hrows2]; unfold lR; rw [List.map_set]
  rw [elr]
  have ok2 : OkFl rows2 ∧ (frOf rows2).Sublist (frOf rows) := by rw [hrows2]; exact row0_ok ok hr0 (by rw [e0, rl0]; omega)
  clear hrows2 elr
  obtain ⟨ok2, sub2⟩ := ok2
  have kh4 : Keep (fun a => a = h) H3 (upd H3 h (.lst (lR rows2))) := Keep.refl.set rfl
  have B4 := B3.keep kh4 (fun x z => by cases z; exact ⟨_, eh3⟩) fun x m z => nh (z ▸ m)
  have K4 : Keep M H (upd H3 h (.lst (lR rows2))) := K3.setN hh
  have eh4 : (upd H3 h (.lst (lR rows2))) h = some (.lst (lR rows2)) := upd_same
  have efl4 : (upd H3 h (.lst (lR rows2))) fl = some (.lst (lR rows)) := get_set nfh efl3
  generalize upd H3 h (.lst (lR rows2)) = H4 at B4 K4 eh4 efl4 ⊢
  clear kh4 B3 K3 eh3 efl3
  repeat kaf_suf
  refine ⟨rfl, fl, true, rows, rfl, efl4, ok, fun H5 pl qs rss k5 hp ep pq rl qn rm => ?_⟩
  have L5 : FlsAt M H5 pl true rows := FlsAt.of (fun h => B4.new h) hp ep pq rl qn rm
  have B5 := B4.same k5
  have K5 := K4.trans k5.weak
  have eh5 := k5.get (fun z => z) eh4
  have efl5 := k5.get (fun z => z) efl4
  clear k5 hp ep pq rl qn rm qs rss B4 K4 eh4 efl4
  repeat kaf_suf
  refine ⟨rfl, fl, false, rows, rfl, efl5, ok, fun H6 pr qs rss k6 hp ep pq rl qn rm => ?_⟩
  have R6 : FlsAt M H6 pr false rows := FlsAt.of (fun h => B5.new h) hp ep pq rl qn rm
  have L6 := L5.keep k6.weak
  have B6 := B5.same k6
  have K6 := K5.trans k6.weak
  have eh6 := k6.get (fun z => z) eh5
  have efl6 := k6.get (fun z => z) efl5
  clear k6 hp ep pq rl qn rm qs rss B5 K5 eh5 efl5 L5
  obtain ⟨gm, hgm⟩ : ∃ gm, (gs ++ f1)[g]? = some gm := ⟨_, List.getElem?_eq_getElem sg3.lt⟩
  have sgA : SG (gs ++ f1) (frOf rows) g := sg3
  have I6 := I3
  obtain ⟨bx, bm, bn, bd, hb6⟩ := B6.ins_
  repeat kaf_suf
  refine ⟨rfl, b, M, _, _, g, gm, rfl, B6, hgm, fun p hp => ?_⟩
  have kp : Keep Nil H6 (upd H6 p (.lst (gm.1.map V.int))) := Keep.alloc hp
  have ep : (upd H6 p (.lst (gm.1.map V.int))) p = some (.lst (gm.1.map V.int)) := upd_same
  have np : ¬ M p := B6.new hp
  generalize upd H6 p (.lst (gm.1.map V.int)) = HA at kp ep ⊢
  have BA := B6.same kp
  have ehA := kp.get (fun z => z) eh6
  have SA := L6.keep kp.weak
  repeat kaf_suf
  obtain ⟨qs, rss, eSrc, _, _, _, _, _⟩ := id SA
  have kpA := kp
  repeat kaf_suf
  refine games_lcF T (F0 := frOf rows) (n0 := gs.length) (s := true) (rows := rows) BA I6 ok (List.Sublist.refl _) l10 (by omega) SA fun HC f7 e7 qC msC kC BC I7 hqC eqC mC MC => ?_
  have epC := kC _ _ np ep
  have KC := (K6.trans kpA.weak).trans kC
  have MM := kpA.weak (M := M) |>.trans kC
  clear kC kpA SA BA
  repeat kaf_suf
  intro p6 c6 hp6 cl6
  repeat kaf_suf
  intro ns6 r6 u6 m6 l6 hr6
  repeat kaf_suf
  have o5 := BC.ok
  have hg6 : ((gs ++ f1) ++ f7)[g]? = some gm := by rw [List.getElem?_append_left (List.getElem?_eq_some_iff.mp hgm).1]; exact hgm
  have sg6 : SG ((gs ++ f1) ++ f7) (frOf rows) g := SG.more sgA
  have e6 : gm.1 = ns6 := up_eq (o5.up gm (List.mem_of_getElem? hg6)).1 u6 fun z => by
    rw [m6, decide_eq_true_iff]
    exact sg6.same o5 hg6 (s := true) MC z
  subst e6
  refine v_neD (dp_ints (l := gm.1) (by kaf_pre)) (dp_ints upd_same) (dInts_sh _) (dInts_sh _) ?_
  rw [eqv_dInts, decide_eq_true rfl]
  refine r_kB (r_ite_nt ?_)
  have k6 : Keep Nil HC (upd (upd HC p6 (SetO c.w p6 (fun j => decide (j ∈ msC)) c6)) r6 (.lst (gm.1.map V.int))) := (Keep.alloc hp6).new hr6
  have gl7 : gm.1.length ≤ 24 := by omega
  refine r_nx (absS (S := fun HT => Keep Nil HC HT) k6 fun H7 k6 => ?_)
  have B7 := BC.same k6
  have K7 := KC.trans k6.weak
  have MK := MM.trans k6.weak
  have eh7 := MK _ _ nh eh6
  have efl7 := MK _ _ nfl efl6
  have L7 := L6.keep MK
  have R7 := R6.keep MK
  have sgB := sg6
  have hgmB := hg6
  clear sg6 hg6
  clear hp ep np kp ehA epC hqC eqC mC MC KC MM MK k6 hp6 hr6 cl6 u6 m6 l6 o5 BC L6 R6 B6 K6 eh6 efl6 I6 hb6
  obtain ⟨bx, bm, bn, bd, hb7⟩ := B7.ins_
  repeat kaf_suf
  refine ⟨rfl, b, M, _, _, g, gm, rfl, B7, hgmB, fun p hp => ?_⟩
  have kp : Keep Nil H7 (upd H7 p (.lst (gm.2.map V.int))) := Keep.alloc hp
  have ep : (upd H7 p (.lst (gm.2.map V.int))) p = some (.lst (gm.2.map V.int)) := upd_same
  have np : ¬ M p := B7.new hp
  generalize upd H7 p (.lst (gm.2.map V.int)) = HA at kp ep ⊢
  have BA := B7.same kp
  have ehA := kp.get (fun z => z) eh7
  have SA := R7.keep kp.weak
  repeat kaf_suf
  obtain ⟨qs, rss, eSrc, _, _, _, _, _⟩ := id SA
  have kpA := kp
  repeat kaf_suf
  refine games_lcF T (F0 := frOf rows) (n0 := gs.length) (s := false) (rows := rows) BA I7 ok (List.Sublist.refl _) l10 (by omega) SA fun HC f8 e8 qC msC kC BC I8 hqC eqC mC MC => ?_
  have epC := kC _ _ np ep
  have KC := (K7.trans kpA.weak).trans kC
  have MM := kpA.weak (M := M) |>.trans kC
  clear kC kpA SA BA
  repeat kaf_suf
  intro p6 c6 hp6 cl6
  repeat kaf_suf
  intro ns6 r6 u6 m6 l6 hr6
  repeat kaf_suf
  have o5 := BC.ok
  have hg6 : ((gs ++ f1 ++ f7) ++ f8)[g]? = some gm := by rw [List.getElem?_append_left (List.getElem?_eq_some_iff.mp hgmB).1]; exact hgmB
  have sg6 : SG ((gs ++ f1 ++ f7) ++ f8) (frOf rows) g := SG.more sgB
  have e6 : gm.2 = ns6 := up_eq (o5.up gm (List.mem_of_getElem? hg6)).2 u6 fun z => by
    rw [m6, decide_eq_true_iff]
    exact sg6.same o5 hg6 (s := false) MC z
  subst e6
  refine v_neD (dp_ints (l := gm.2) (by kaf_pre)) (dp_ints upd_same) (dInts_sh _) (dInts_sh _) ?_
  rw [eqv_dInts, decide_eq_true rfl]
  refine r_kB (r_ite_nt ?_)
  have k6 : Keep Nil HC (upd (upd HC p6 (SetO c.w p6 (fun j => decide (j ∈ msC)) c6)) r6 (.lst (gm.2.map V.int))) := (Keep.alloc hp6).new hr6
  have gl8 : gm.2.length ≤ 24 := by omega
  refine r_nx (absS (S := fun HT => Keep Nil HC HT) k6 fun H8 k6 => ?_)
  have B8 := BC.same k6
  have K8 := KC.trans k6.weak
  have MK := MM.trans k6.weak
  have eh8 := MK _ _ nh eh7
  have efl8 := MK _ _ nfl efl7
  have L8 := L7.keep MK
  have R8 := R7.keep MK
  have sgC := sg6
  have hgmC := hg6
  clear sg6 hg6
  clear hp ep np kp ehA epC hqC eqC mC MC KC MM MK k6 hp6 hr6 cl6 u6 m6 l6 o5 BC L7 R7 B7 K7 eh7 efl7 I7 hb7
  generalize hGS : gs ++ f1 ++ f7 ++ f8 = GS at *
  generalize hDS : ds ++ e1 ++ e7 ++ e8 = DS at *
  repeat kaf_suf
  refine ⟨rfl, b, h, M, GS, DS, rows2, frOf rows, gs.length, rfl, B8, I8, eh8, ok2, sub2, l10, by omega, fun H9 f9 e9 g2 k9 B9 I9 sg9 => ?_⟩
  have K9 := K8.trans k9
  have eh9 := k9 _ _ nh eh8
  have efl9 := k9 _ _ nfl efl8
  have L9 := L8.keep k9
  have R9 := R8.keep k9
  have sgD : SG (GS ++ f9) (frOf rows) g := SG.more sgC
  have hgmD : (GS ++ f9)[g]? = some gm := by rw [List.getElem?_append_left (List.getElem?_eq_some_iff.mp hgmC).1]; exact hgmC
  obtain ⟨gm2, hgm2⟩ : ∃ gm2, (GS ++ f9)[g2]? = some gm2 := ⟨_, List.getElem?_eq_getElem sg9.lt⟩
  clear K8 B8 I8 eh8 efl8 L8 R8 k9 sgA sgB sgC hgm hgmB hgmC
  obtain ⟨bx, bm, bn, bd, hb9⟩ := B9.ins_
  repeat kaf_suf
  refine ⟨rfl, b, M, _, _, g2, gm2, rfl, B9, hgm2, fun p hp => ?_⟩
  have kp : Keep Nil H9 (upd H9 p (.lst (gm2.1.map V.int))) := Keep.alloc hp
  have ep : (upd H9 p (.lst (gm2.1.map V.int))) p = some (.lst (gm2.1.map V.int)) := upd_same
  have np : ¬ M p := B9.new hp
  generalize upd H9 p (.lst (gm2.1.map V.int)) = HA at kp ep ⊢
  have BA := B9.same kp
  have ehA := kp.get (fun z => z) eh9
  repeat kaf_suf
  refine ⟨rfl, h, true, rows2, rfl, ehA, ok2, fun HB pB qs rss kB hpB eB pq rl qn rm => ?_⟩
  have SA : FlsAt M HB pB true rows2 := FlsAt.of (fun h => BA.new h) hpB eB pq rl qn rm
  have kpA := kp.trans kB
  have ep := kB.get (fun z => z) ep
  have BA := BA.same kB
  clear kB hpB pq rl qn rm
  repeat kaf_suf
  refine games_lcF T (F0 := frOf rows) (n0 := gs.length) (s := true) (rows := rows2) BA I9 ok2 sub2 l10 (by omega) SA fun HC f10 e10 qC msC kC BC I10 hqC eqC mC MC => ?_
  have epC := kC _ _ np ep
  have KC := (K9.trans kpA.weak).trans kC
  have MM := kpA.weak (M := M) |>.trans kC
  clear kC kpA SA BA
  repeat kaf_suf
  intro p6 c6 hp6 cl6
  repeat kaf_suf
  intro ns6 r6 u6 m6 l6 hr6
  repeat kaf_suf
  have o5 := BC.ok
  have hg6 : ((GS ++ f9) ++ f10)[g2]? = some gm2 := by rw [List.getElem?_append_left (List.getElem?_eq_some_iff.mp hgm2).1]; exact hgm2
  have sg6 : SG ((GS ++ f9) ++ f10) (frOf rows2) g2 := SG.more sg9
  have e6 : gm2.1 = ns6 := up_eq (o5.up gm2 (List.mem_of_getElem? hg6)).1 u6 fun z => by
    rw [m6, decide_eq_true_iff]
    exact sg6.same o5 hg6 (s := true) MC z
  subst e6
  refine v_neD (dp_ints (l := gm2.1) (by kaf_pre)) (dp_ints upd_same) (dInts_sh _) (dInts_sh _) ?_
  rw [eqv_dInts, decide_eq_true rfl]
  refine r_kB (r_ite_nt ?_)
  have k6 : Keep Nil HC (upd (upd HC p6 (SetO c.w p6 (fun j => decide (j ∈ msC)) c6)) r6 (.lst (gm2.1.map V.int))) := (Keep.alloc hp6).new hr6
  have gl10 : gm2.1.length ≤ 24 := by omega
  refine r_nx (absS (S := fun HT => Keep Nil HC HT) k6 fun H10 k6 => ?_)
  have B10 := BC.same k6
  have K10 := KC.trans k6.weak
  have MK := MM.trans k6.weak
  have eh10 := MK _ _ nh eh9
  have efl10 := MK _ _ nfl efl9
  have L10 := L9.keep MK
  have R10 := R9.keep MK
  have sgE := sg6
  have hgmE := hg6
  have sgF : SG (GS ++ f9 ++ f10) (frOf rows) g := SG.more sgD
  have hgmF : (GS ++ f9 ++ f10)[g]? = some gm := by rw [List.getElem?_append_left (List.getElem?_eq_some_iff.mp hgmD).1]; exact hgmD
  clear sg6 hg6 sgD hgmD
  clear hp ep np kp ehA epC hqC eqC mC MC KC MM MK k6 hp6 hr6 cl6 u6 m6 l6 o5 BC L9 R9 B9 K9 eh9 efl9 I9 hb9
  obtain ⟨bx, bm, bn, bd, hb10⟩ := B10.ins_
  repeat kaf_suf
  refine ⟨rfl, b, M, _, _, g2, gm2, rfl, B10, hgmE, fun p hp => ?_⟩
  have kp : Keep Nil H10 (upd H10 p (.lst (gm2.2.map V.int))) := Keep.alloc hp
  have ep : (upd H10 p (.lst (gm2.2.map V.int))) p = some (.lst (gm2.2.map V.int)) := upd_same
  have np : ¬ M p := B10.new hp
  generalize upd H10 p (.lst (gm2.2.map V.int)) = HA at kp ep ⊢
  have BA := B10.same kp
  have ehA := kp.get (fun z => z) eh10
  repeat kaf_suf
  refine ⟨rfl, h, false, rows2, rfl, ehA, ok2, fun HB pB qs rss kB hpB eB pq rl qn rm => ?_⟩
  have SA : FlsAt M HB pB false rows2 := FlsAt.of (fun h => BA.new h) hpB eB pq rl qn rm
  have kpA := kp.trans kB
  have ep := kB.get (fun z => z) ep
  have BA := BA.same kB
  clear kB hpB pq rl qn rm
  repeat kaf_suf
  refine games_lcF T (F0 := frOf rows) (n0 := gs.length) (s := false) (rows := rows2) BA I10 ok2 sub2 l10 (by omega) SA fun HC f11 e11 qC msC kC BC I11 hqC eqC mC MC => ?_
  have epC := kC _ _ np ep
  have KC := (K10.trans kpA.weak).trans kC
  have MM := kpA.weak (M := M) |>.trans kC
  clear kC kpA SA BA
  repeat kaf_suf
  intro p6 c6 hp6 cl6
  repeat kaf_suf
  intro ns6 r6 u6 m6 l6 hr6
  repeat kaf_suf
  have o5 := BC.ok
  have hg6 : ((GS ++ f9 ++ f10) ++ f11)[g2]? = some gm2 := by rw [List.getElem?_append_left (List.getElem?_eq_some_iff.mp hgmE).1]; exact hgmE
  have sg6 : SG ((GS ++ f9 ++ f10) ++ f11) (frOf rows2) g2 := SG.more sgE
  have e6 : gm2.2 = ns6 := up_eq (o5.up gm2 (List.mem_of_getElem? hg6)).2 u6 fun z => by
    rw [m6, decide_eq_true_iff]
    exact sg6.same o5 hg6 (s := false) MC z
  subst e6
  refine v_neD (dp_ints (l := gm2.2) (by kaf_pre)) (dp_ints upd_same) (dInts_sh _) (dInts_sh _) ?_
  rw [eqv_dInts, decide_eq_true rfl]
  refine r_kB (r_ite_nt ?_)
  have k6 : Keep Nil HC (upd (upd HC p6 (SetO c.w p6 (fun j => decide (j ∈ msC)) c6)) r6 (.lst (gm2.2.map V.int))) := (Keep.alloc hp6).new hr6
  have gl11 : gm2.2.length ≤ 24 := by omega
  refine r_nx (absS (S := fun HT => Keep Nil HC HT) k6 fun H11 k6 => ?_)
  have B11 := BC.same k6
  have K11 := KC.trans k6.weak
  have MK := MM.trans k6.weak
  have eh11 := MK _ _ nh eh10
  have efl11 := MK _ _ nfl efl10
  have L11 := L10.keep MK
  have R11 := R10.keep MK
  have sgG : SG (GS ++ f9 ++ f10 ++ f11) (frOf rows) g := SG.more sgF
  have hgmG : (GS ++ f9 ++ f10 ++ f11)[g]? = some gm := by rw [List.getElem?_append_left (List.getElem?_eq_some_iff.mp hgmF).1]; exact hgmF
  clear sg6 hg6 sgE hgmE sgF hgmF sg9 hgm2
  clear hp ep np kp ehA epC hqC eqC mC MC KC MM MK k6 hp6 hr6 cl6 u6 m6 l6 o5 BC L10 R10 B10 K10 eh10 efl10 I10 hb10
  generalize hGT : GS ++ f9 ++ f10 ++ f11 = GT at *
  generalize hDT : DS ++ e9 ++ e10 ++ e11 = DT at *
  obtain ⟨bx, bm, bn, bd, hb11⟩ := B11.ins_
  repeat kaf_suf
  refine ⟨rfl, b, M, _, _, g, gm, rfl, B11, hgmG, fun p1 hp1 => ?_⟩
  have kp1 : Keep Nil H11 (upd H11 p1 (.lst (gm.1.map V.int))) := Keep.alloc hp1
  have ep1 : (upd H11 p1 (.lst (gm.1.map V.int))) p1 = some (.lst (gm.1.map V.int)) := upd_same
  generalize upd H11 p1 (.lst (gm.1.map V.int)) = H14 at kp1 ep1 ⊢
  have hb14 := kp1.get (fun z => z) hb11
  repeat kaf_suf
  refine ⟨rfl, b, M, _, _, g, gm, rfl, B11.same kp1, hgmG, fun p2 hp2 => ?_⟩
  have kp2 : Keep Nil H11 (upd H14 p2 (.lst (gm.2.map V.int))) := kp1.new hp2
  have ep1' : (upd H14 p2 (.lst (gm.2.map V.int))) p1 = some (.lst (gm.1.map V.int)) := get_new hp2 ep1
  have ep2 : (upd H14 p2 (.lst (gm.2.map V.int))) p2 = some (.lst (gm.2.map V.int)) := upd_same
  generalize upd H14 p2 (.lst (gm.2.map V.int)) = H15 at kp2 ep1' ep2 ⊢
  clear kp1 hp1 hp2 ep1 hb14
  repeat kaf_suf
  intro y hy
  have ky : Keep Nil H11 (upd H15 y (.lst (gm.1.map V.int ++ gm.2.map V.int))) := kp2.new hy
  have ey : (upd H15 y (.lst (gm.1.map V.int ++ gm.2.map V.int))) y = some (.lst ((gm.1 ++ gm.2).map V.int)) := by rw [List.map_append]; exact upd_same
  generalize upd H15 y (.lst (gm.1.map V.int ++ gm.2.map V.int)) = H16 at ky ey ⊢
  clear kp2 ep1' ep2 hy
  have B16 := B11.same ky
  have hb16 := ky.get (fun z => z) hb11
  have K16 := K11.trans ky.weak
  have L16 := L11.keep ky.weak
  have R16 := R11.keep ky.weak
  have efl16 := ky.get (fun z => z) efl11
  clear ky hb11 B11 K11 L11 R11 efl11 eh11
  obtain ⟨dd, hdd⟩ : ∃ dd, DT[g]? = some dd := ⟨_, List.getElem?_eq_getElem (by have := B16.dok.len; have := (List.getElem?_eq_some_iff.mp hgmG).1; omega)⟩
  repeat kaf_suf
  refine ⟨rfl, b, M, _, _, g, dd, rfl, B16, hdd, ?_⟩
  repeat kaf_suf
  intro z hz
  repeat kaf_suf
  intro D9 hD9
  have kz : Keep Nil H16 (upd H16 z (.lst [.int 0])) := Keep.alloc hz
  have hzz : (upd H16 z (.lst [.int 0])) z = some (.lst [.int 0]) := upd_same
  have hyy := kz.get (fun z => z) ey
  generalize upd H16 z (.lst [.int 0]) = H17 at hD9 hzz hyy kz ⊢
  have hlen : ((dps DT (gm.1 ++ gm.2)).map fun x => 1 + x).length = (gm.1 ++ gm.2).length := by simp [dps]
  clear hz
  refine lc_list (xs := (gm.1 ++ gm.2).map V.int) (fun j H3 => H3 D9 = some (.lst ((((dps DT (gm.1 ++ gm.2)).map fun x => 1 + x).take j).map V.int)) ∧ Keep Nil H17 H3) ⟨upd_same, Keep.alloc hD9⟩ ?_ ?_ ?_
  · rintro j H3 _ ⟨_, k3⟩; exact SqL.of (k3.get (fun z => z) hyy)
  · rintro j x H3 hj ⟨w3, k3⟩
    rw [List.getElem?_map] at hj
    obtain ⟨m, hm, rfl⟩ := Option.map_eq_some_iff.mp hj
    have low := B16.ok.low g _ hgmG m (List.mem_of_getElem? hm)
    have hm' := (List.getElem?_eq_some_iff.mp hm).1
    rw [List.length_append] at hm'
    obtain ⟨mn, rfl⟩ := Int.eq_ofNat_of_zero_le low.1
    have hdl := B16.dok.len
    have hgl9 := (List.getElem?_eq_some_iff.mp hgmG).1
    have hml : mn < DT.length := by omega
    have hb3 := (kz.trans k3).get (fun z => z) hb16
    repeat kaf_suf
    refine ⟨rfl, ?_⟩
    repeat kaf_suf
    refine ⟨rfl, b, M, _, _, mn, DT[mn], rfl, B16.same (kz.trans k3), List.getElem?_eq_getElem hml, ?_⟩
    repeat kaf_suf
    refine ⟨_, w3, few1 (by simp only [List.length_map, List.length_take]; omega), ?_, k3.setN hD9⟩
    rw [upd_same]
    have ee : ((dps DT (gm.1 ++ gm.2)).map fun x => 1 + x)[j]? = some (1 + DT[mn]) := by
      rw [List.getElem?_map, dps, List.getElem?_map, hm]; simp [hml]
    rw [List.take_succ, ee]; simp
  rintro H3 ⟨w3, k3⟩
  have w4 : H3 D9 = some (.lst (((dps DT (gm.1 ++ gm.2)).map fun x => 1 + x).map V.int)) := by
    rw [w3, List.take_of_length_le (by rw [hlen, List.length_map]; exact Nat.le_refl _)]
  have hz3 := k3.get (fun z => z) hzz
  have gl12 : (gm.1 ++ gm.2).length ≤ 48 := by rw [List.length_append]; omega
  refine v_addL hz3 w4 (few2 (by simp [dps]; omega)) fun y2 hy2 => ?_
  repeat kaf_suf
  refine v_maxL (ns := 0 :: (dps DT (gm.1 ++ gm.2)).map fun x => 1 + x) upd_same (by simp) fun m hm hmax => ?_
  have em := depth_of B16.ok B16.dok hgmG hdd (fun _ => Iff.rfl) hm hmax
  repeat kaf_suf
  have kF : Keep Nil H16 (upd H3 y2 (.lst ([V.int 0] ++ ((dps DT (gm.1 ++ gm.2)).map fun x => 1 + x).map V.int))) := (kz.trans k3).new hy2
  generalize upd H3 y2 (.lst ([V.int 0] ++ ((dps DT (gm.1 ++ gm.2)).map fun x => 1 + x).map V.int)) = HF at kF ⊢
  clear hy2 w3 w4 k3 kz hzz hyy hz3 hD9
  have BF := B16.same kF
  have KF := K16.trans kF.weak
  have LF := L16.keep kF.weak
  have RF := R16.keep kF.weak
  have eflF := kF.get (fun z => z) efl16
  clear kF B16 K16 L16 R16 efl16 hb16 ey
  repeat kaf_suf
  intro h2 hh2
  have kh2 : Keep Nil HF (upd HF h2 (.lst (lR rows))) := Keep.alloc hh2
  have eh2 : (upd HF h2 (.lst (lR rows))) h2 = some (.lst (lR rows)) := upd_same
  generalize upd HF h2 (.lst (lR rows)) = HG1 at kh2 eh2 ⊢
  repeat kaf_suf
  refine ⟨rfl, b, h2, M, _, _, rows, frOf rows, gs.length, rfl, BF.same kh2, I11, eh2, ok, List.Sublist.refl _, l10, by omega, fun HX f20 e20 g3 kG BG IG sgH => ?_⟩
  have eg : g3 = g := sgH.uniq BG.ok (SG.more sgG)
  subst eg
  have KX := (KF.trans kh2.weak).trans kG
  obtain ⟨qs, rss, eL7, n7, pq7, qn7, rl7, rm7⟩ := (LF.keep kh2.weak).keep kG
  obtain ⟨qs8, rss8, eR8, n8, pq8, qn8, rl8, rm8⟩ := (RF.keep kh2.weak).keep kG
  have ql7 := Paired.length pq7
  have ql8 := Paired.length pq8
  repeat kaf_suf
  intro q hq
  rw [← List.map_append]
  have kq : Keep Nil HX (upd HX q (.lst ((qs ++ qs8).map V.ref))) := Keep.alloc hq
  have eq : (upd HX q (.lst ((qs ++ qs8).map V.ref))) q = some (.lst ((qs ++ qs8).map V.ref)) := upd_same
  generalize upd HX q (.lst ((qs ++ qs8).map V.ref)) = HY at kq eq ⊢
  have pqA : Paired (FlAt HY) (qs ++ qs8) (rss ++ rss8) := paired_append (paired_keep pq7 fun _ _ h => kq.get (fun z => z) h) (paired_keep pq8 fun _ _ h => kq.get (fun z => z) h)
  have oX : ∀ x ∈ rss ++ rss8, OkFl x := fun x hx => by
    rcases List.mem_append.mp hx with h | h
    · exact fls_all ok rm7 x h
    · exact fls_all ok rm8 x h
  repeat kaf_suf
  intro t ht
  have kt : Keep Nil HY (upd HY t (.lst [])) := Keep.alloc ht
  refine v_eqD (d := .list ((rss ++ rss8).map dTx)) (e := .list []) (dpFl (kt.get (fun z => z) eq) (paired_keep pqA fun _ _ h => kt.get (fun z => z) h)) (.lst (SqL.of upd_same) .nil) (dFl_sh oX) (dInts_sh []) ?_
  rw [eqv_dFl]
  refine v_eqB ?_
  have ez : decide (((g3 : Nat) : Int) = 0) = decide (rss ++ rss8 = []) := by
    have := sgH.zero BG.ok
    rw [decide_eq_decide]
    constructor
    · intro h
      have h := this.mp (by omega)
      refine List.eq_nil_iff_forall_not_mem.mpr fun x hx => ?_
      rcases List.mem_append.mp hx with hx | hx
      · obtain ⟨y, a, cn, rfl⟩ := (rm7 x).mp hx
        exact h true _ (cnd_mv.mp ⟨y, a, cn, rfl⟩)
      · obtain ⟨y, a, cn, rfl⟩ := (rm8 x).mp hx
        exact h false _ (cnd_mv.mp ⟨y, a, cn, rfl⟩)
    · intro h
      have := this.mpr fun s x mv => by
        obtain ⟨y, a, cn, rfl⟩ := cnd_mv.mpr mv
        have : brick s rows y a ∈ rss ++ rss8 := by
          cases s
          · exact List.mem_append.mpr (.inr ((rm8 _).mpr ⟨y, a, cn, rfl⟩))
          · exact List.mem_append.mpr (.inl ((rm7 _).mpr ⟨y, a, cn, rfl⟩))
        rw [h] at this
        exact nomatch this
      omega
  rw [decide_eq_true ez]
  subst hGT hDT
  subst hGS hDS
  have q1 : gs ++ (f1 ++ f7 ++ f8 ++ f9 ++ f10 ++ f11 ++ f20) = gs ++ f1 ++ f7 ++ f8 ++ f9 ++ f10 ++ f11 ++ f20 := by simp
  have q2 : ds ++ (e1 ++ e7 ++ e8 ++ e9 ++ e10 ++ e11 ++ e20) = ds ++ e1 ++ e7 ++ e8 ++ e9 ++ e10 ++ e11 ++ e20 := by simp
  refine k _ (f1 ++ f7 ++ f8 ++ f9 ++ f10 ++ f11 ++ f20) (e1 ++ e7 ++ e8 ++ e9 ++ e10 ++ e11 ++ e20) (KX.trans (kq.trans kt).weak) (by rw [q1, q2]; exact BG.same (kq.trans kt)) ?_
  have few := IG.few
  have p2 : 2 ^ (frOf rows).length ≤ 2 ^ 10 := Nat.pow_le_pow_right (by decide) l10
  rw [← q1, List.length_append] at few
  omega
theorem cal_law_right {c : Cn} {mg : Str → Option Value} {base : Heap} (T : Txt c mg) : Cal c.P c.w c.K mg base CX0 19 "_law_right" (sp_law_right c) := by
  obtain ⟨f, fd, F, g, b⟩ := T.F_law_right
  exact ⟨f, fd, ["book", "floor"], F.ok (k := 18) (N := N_law_right) sc_law_right (fun vs H Q E h => h.1) (fun cdv A outer s H vs Q E hr h => ⟨t_law_right c, by
  exact (pss_cons (ps_set (i := 2) sc_law_right.nd rfl (Or.inl rfl) (pe_callTy (k_list rfl) (by rfl) T.n_list (by decide +kernel) (pa_cons (pv 1) pa_nil)))
  (pss_cons (ps_if (pt_cmpR o_isnot (e_call (cal_is_floor T) hr (by decide) pass0 rfl (pa_cons (pv 2) pa_nil)) pe_bl (nomark _)) (pss_one (ps_ret pe_bl)) pss_nil)
  (pss_cons (ps_set (i := 3) sc_law_right.nd rfl (Or.inl rfl) (e_call (cal_floor_game T) hr (by decide) pass0 rfl (pa_cons (pv 0) (pa_cons (pv 2) pa_nil))))
  (pss_cons (ps_if (PW.pt (pw_or (pt_not (p_tru (pe_callB k_isi (by rfl) T.n_isinstance (by decide +kernel) (pa_cons (pv 3) (pa_cons (pe_bltn rfl T.n_int (by decide +kernel) rfl) pa_nil))))) (pw_or (p_tru (pe_callB k_isi (by rfl) T.n_isinstance (by decide +kernel) (pa_cons (pv 3) (pa_cons (pe_bltn rfl T.n_bool (by decide +kernel) rfl) pa_nil)))) (pw_or1 (pt_cmpR (o_ne (hu64 hr)) (pv 2) (pv 1) (nomark _)))))) (pss_one (ps_ret pe_bl)) pss_nil)
  (pss_cons (ps_asg (pe_op o_mulS pe_str (pe_callB k_len (by rfl) T.n_len (by decide +kernel) (pa_cons (pe_ix (x_ix (hu64 hr)) (pv 1) pe_int (fun _ _ => rfl)) pa_nil))) (pg_sub (pv 2) pe_int (s_set (hu64 hr))))
  (pss_cons (ps_set (i := 4) sc_law_right.nd rfl (Or.inl rfl) (e_call (cal_law_behind T) hr (by decide) pass0 rfl (pa_cons (pv 1) (pa_cons pe_int (pa_cons pe_int pa_nil)))))
  (pss_cons (ps_set (i := 5) sc_law_right.nd rfl (Or.inl rfl) (e_call (cal_law_behind T) hr (by decide) pass0 rfl (pa_cons (pv 1) (pa_cons pe_int (pa_cons pe_int pa_nil)))))
  (pss_cons (ps_if (pt_cmpR (o_ne (hu64 hr)) (e_meth (met_Book_lefts T) hr (by decide) pass0 (pv 0) (pa_cons (pv 3) pa_nil)) (pe_callB (k_sorted rfl) (by rfl) T.n_sorted (by decide +kernel) (pa_cons (pe_callTy (k_set rfl) (by rfl) T.n_set (by decide +kernel) (pa_cons (pe_lc (own := [("one", 8)]) rfl sc_law_right.nd (pi_any (pv 4)) (blkOk_by (own := [("one", 8)]) (N := N_law_right) (sc := defScope s_law_right) (by decide +kernel)) (fun _ _ _ _ _ => (pg_name (i := 8) sc_law_right.nd rfl (Or.inl rfl))) (fun _ _ _ _ _ => pts_nil) (fun _ _ _ _ _ => (e_call (cal_floor_game T) hr (by decide) pass0 rfl (pa_cons (pv 0) (pa_cons (pv 8) pa_nil))))) pa_nil)) pa_nil)) (nomark _)) (pss_one (ps_ret pe_bl)) pss_nil)
  (pss_cons (ps_if (pt_cmpR (o_ne (hu64 hr)) (e_meth (met_Book_rights T) hr (by decide) pass0 (pv 0) (pa_cons (pv 3) pa_nil)) (pe_callB (k_sorted rfl) (by rfl) T.n_sorted (by decide +kernel) (pa_cons (pe_callTy (k_set rfl) (by rfl) T.n_set (by decide +kernel) (pa_cons (pe_lc (own := [("one", 8)]) rfl sc_law_right.nd (pi_any (pv 5)) (blkOk_by (own := [("one", 8)]) (N := N_law_right) (sc := defScope s_law_right) (by decide +kernel)) (fun _ _ _ _ _ => (pg_name (i := 8) sc_law_right.nd rfl (Or.inl rfl))) (fun _ _ _ _ _ => pts_nil) (fun _ _ _ _ _ => (e_call (cal_floor_game T) hr (by decide) pass0 rfl (pa_cons (pv 0) (pa_cons (pv 8) pa_nil))))) pa_nil)) pa_nil)) (nomark _)) (pss_one (ps_ret pe_bl)) pss_nil)
  (pss_cons (ps_set (i := 6) sc_law_right.nd rfl (Or.inl rfl) (e_call (cal_floor_game T) hr (by decide) pass0 rfl (pa_cons (pv 0) (pa_cons (pv 2) pa_nil))))
  (pss_cons (ps_if (pt_cmpR (o_ne (hu64 hr)) (e_meth (met_Book_lefts T) hr (by decide) pass0 (pv 0) (pa_cons (pv 6) pa_nil)) (pe_callB (k_sorted rfl) (by rfl) T.n_sorted (by decide +kernel) (pa_cons (pe_callTy (k_set rfl) (by rfl) T.n_set (by decide +kernel) (pa_cons (pe_lc (own := [("one", 8)]) rfl sc_law_right.nd (pi_any (e_call (cal_law_behind T) hr (by decide) pass0 rfl (pa_cons (pv 2) (pa_cons pe_int (pa_cons pe_int pa_nil))))) (blkOk_by (own := [("one", 8)]) (N := N_law_right) (sc := defScope s_law_right) (by decide +kernel)) (fun _ _ _ _ _ => (pg_name (i := 8) sc_law_right.nd rfl (Or.inl rfl))) (fun _ _ _ _ _ => pts_nil) (fun _ _ _ _ _ => (e_call (cal_floor_game T) hr (by decide) pass0 rfl (pa_cons (pv 0) (pa_cons (pv 8) pa_nil))))) pa_nil)) pa_nil)) (nomark _)) (pss_one (ps_ret pe_bl)) pss_nil)
  (pss_cons (ps_if (pt_cmpR (o_ne (hu64 hr)) (e_meth (met_Book_rights T) hr (by decide) pass0 (pv 0) (pa_cons (pv 6) pa_nil)) (pe_callB (k_sorted rfl) (by rfl) T.n_sorted (by decide +kernel) (pa_cons (pe_callTy (k_set rfl) (by rfl) T.n_set (by decide +kernel) (pa_cons (pe_lc (own := [("one", 8)]) rfl sc_law_right.nd (pi_any (e_call (cal_law_behind T) hr (by decide) pass0 rfl (pa_cons (pv 2) (pa_cons pe_int (pa_cons pe_int pa_nil))))) (blkOk_by (own := [("one", 8)]) (N := N_law_right) (sc := defScope s_law_right) (by decide +kernel)) (fun _ _ _ _ _ => (pg_name (i := 8) sc_law_right.nd rfl (Or.inl rfl))) (fun _ _ _ _ _ => pts_nil) (fun _ _ _ _ _ => (e_call (cal_floor_game T) hr (by decide) pass0 rfl (pa_cons (pv 0) (pa_cons (pv 8) pa_nil))))) pa_nil)) pa_nil)) (nomark _)) (pss_one (ps_ret pe_bl)) pss_nil)
  (pss_cons (ps_set (i := 7) sc_law_right.nd rfl (Or.inl rfl) (pe_op o_add (e_meth (met_Book_lefts T) hr (by decide) pass0 (pv 0) (pa_cons (pv 3) pa_nil)) (e_meth (met_Book_rights T) hr (by decide) pass0 (pv 0) (pa_cons (pv 3) pa_nil))))
  (pss_cons (ps_if (pt_cmpR (o_ne (hu64 hr)) (e_meth (met_Book_depth T) hr (by decide) pass0 (pv 0) (pa_cons (pv 3) pa_nil)) (pe_callB (k_max rfl) (by rfl) T.n_max (by decide +kernel) (pa_cons (pe_op o_add (pe_lst (pa_cons pe_int pa_nil)) (pe_lc (own := [("move", 9)]) rfl sc_law_right.nd (pi_any (pv 7)) (blkOk_by (own := [("move", 9)]) (N := N_law_right) (sc := defScope s_law_right) (by decide +kernel)) (fun _ _ _ _ _ => (pg_name (i := 9) sc_law_right.nd rfl (Or.inl rfl))) (fun _ _ _ _ _ => pts_nil) (fun _ _ _ _ _ => (pe_op o_add pe_int (e_meth (met_Book_depth T) hr (by decide) pass0 (pv 0) (pa_cons (pv 9) pa_nil)))))) pa_nil)) (nomark _)) (pss_one (ps_ret pe_bl)) pss_nil)
  (pss_one (ps_ret (pe_and (pe_cmpR (o_eq (hu64 hr)) (e_call (cal_floor_game T) hr (by decide) pass0 rfl (pa_cons (pv 0) (pa_cons (pe_callTy (k_list rfl) (by rfl) T.n_list (by decide +kernel) (pa_cons (pv 1) pa_nil)) pa_nil))) (pv 3) (nomark _)) (pe_one (pe_cmpR (o_eq (hu64 hr)) (pe_cmpR (o_eq (hu64 hr)) (pv 3) pe_int (nomark _)) (pe_cmpR (o_eq (hu64 hr)) (pe_op o_add (pv 4) (pv 5)) (pe_lst pa_nil) (nomark _)) (nomark _)))))))))))))))))))), p_law_right T h⟩), g, F.kp, b⟩

abbrev N_law : List Str := ["script", "deck", "book", "k", "floor", "turn", "behind"]
theorem sc_law : FnScope N_law ["script"] (defScope s_law) := ⟨rfl, rfl, rfl, by decide +kernel, rfl, by decide +kernel, by decide +kernel⟩
def t_law (c : Cn) : TS :=
  (tSeq (tAsg (tCall (sp_law_deck c) [] E0 (tCons (tVar 0) tNil)) (gName 1))
  (tSeq (tAsg (tMake c.cBook (sp_Book_init c) [] E0 tNil) (gName 2))
  (tSeq (tFor (iRng1 (tCons (tC (.int 3)) tNil)) (gName 3)
  (tSeq (tAsg (tCall (sp_law_floor c) [] E0 (tCons (tVar 1) tNil)) (gName 4))
  (tFor (iRng1 (tCons (tC (.int 3)) tNil)) (gName 5)
  (tSeq (tIfS (tNot (tTru c.K (tCall (sp_law_right c) [] E0 (tCons (tVar 2) (tCons (tVar 4) tNil)))))
  (tRet (tC (.bl false)))
  tNext)
  (tSeq (tAsg (tOp (bAdd c.K) (tCall (sp_law_behind c) [] E0 (tCons (tVar 4) (tCons (tC (.int 1)) (tCons (tC (.int 0)) tNil)))) (tCall (sp_law_behind c) [] E0 (tCons (tVar 4) (tCons (tC (.int 0)) (tCons (tC (.int 1)) tNil))))) (gName 6))
  (tIfS (tTest (tOp (cNe c.K) (tVar 6) (tLst tNil)))
  (tAsg (tOp (bIx c.P c.w c.K) (tVar 6) (tCall (sp_law_draw c) [] E0 (tCons (tVar 1) (tCons (tCB (kLen c.K) (tCons (tVar 6) tNil)) tNil)))) (gName 4))
  tNext))))))
  (C8.tCut (tIfS (tTest (tOp (cEq c.K) (tCall (sp_law_draw c) [] E0 (tCons (tVar 1) (tCons (tC (.int 8)) tNil))) (tC (.int 0))))
  (tIfS (tNot (tTru c.K (tCall (sp_law_right c) [] E0 (tCons (tVar 2) (tCons (tLst (tCons (tC (.str ".....")) (tCons (tC (.str ".....")) tNil))) tNil)))))
  (tRet (tC (.bl false)))
  tNext)
  tNext)
  (tRet (tAndV (tOp (cEq c.K) (tCall (sp_floor_game c) [] E0 (tCons (tMake c.cBook (sp_Book_init c) [] E0 tNil) (tCons (tLst (tCons (tC (.str "#")) tNil)) tNil))) (tC (.int 0))) (tOp (cEq c.K) (tCall (sp_floor_game c) [] E0 (tCons (tMake c.cBook (sp_Book_init c) [] E0 tNil) (tCons (tLst (tCons (tC (.str ".")) tNil)) tNil))) (tC (.int 0)))))))))
theorem DeckAt.cell {H : Hp} {d : Addr} {M : Addr → Prop} (D : DeckAt H d M) {x : Addr} (h : M x) : ∃ l, H x = some (.lst l) := by
  obtain ⟨pl, ps, i, h1, _, h2, _, _, _, _, h3, h4⟩ := D.ex
  rcases h4 x h with rfl | rfl | hx
  · exact ⟨_, h1⟩
  · exact ⟨_, h2⟩
  · obtain ⟨_, _, _, a, b, k, e⟩ := h3 x hx
    exact ⟨_, e⟩
theorem brick_le {s : Bool} {rows : List (List Nat)} {y x : Nat} : (frOf (brick s rows y x)).length ≤ (frOf rows).length := by
  rw [brick_fr]
  exact rem_sub.length_le
def lit1 (c : Nat) : List (List Nat) := [[c]]
theorem lit_ok {c : Nat} (h : c = 46 ∨ c = 35) : OkFl (lit1 c) := ⟨by show 1 ≤ 1; decide, by show 1 ≤ 4; decide, 1, by decide, by decide, fun r hr => by
  unfold lit1 at hr
  rw [List.mem_singleton] at hr
  subst hr
  exact ⟨rfl, fun x hx => by rw [List.mem_singleton] at hx; rw [hx]; exact h⟩⟩
theorem no_mv {s : Bool} {F F' : Fl} (h : F.length ≤ 1) : ¬ Mv s F F' := fun ⟨p, hp, hq, _⟩ => by
  match F, h with
  | [], _ => exact nomatch hp
  | [z], _ =>
    rw [List.mem_singleton] at hp hq
    rw [hp] at hq
    rw [stp_eq] at hq
    have h1 := congrArg Prod.fst hq
    have h2 := congrArg Prod.snd hq
    cases s <;> simp [dn, ac] at h1 h2 <;> omega
def sp_law_law (K : PySem.W.Frag) : Sp := fun vs H Q E => vs.length = 1 ∧ ∃ (a : Addr) (ns : List Int), vs = [.ref a] ∧ SqL K H a (ns.map V.int) ∧ ns.length ≤ 63 ∧ ∀ H', Q (.bl true) H'
theorem p_law {c : Cn} {mg : Str → Option Value} (T : Txt c mg) {vs : List V} {H : Hp} {Q : VK} {E : XK} (h : sp_law_law c.K vs H Q E) : t_law c { nx := fun _ H' => Q .non H', rt := Q } (start N_law vs) H := by
  obtain ⟨_, a, ns, rfl, hs, few, k⟩ := h
  unfold t_law
  repeat kaf_suf
  refine ⟨rfl, a, ns, rfl, hs, few, fun H1 d MD k1 D1 nD => ?_⟩
  repeat kaf_suf
  intro b dx hb hdx ndx
  repeat kaf_suf
  refine ⟨rfl, b, dx, rfl, upd_same, fun H2 MB k2 B2 nB => ⟨rfl, ?_⟩⟩
  have nbD : ∀ x, MB x → ¬ MD x := fun x h z => by
    have h0 := none_of_upd (none_of_upd (nB x h))
    exact D1.dom z h0
  have D2 : DeckAt H2 d MD := (D1.keep (Keep.new (Keep.alloc (o := .own b) hdx) (by rw [upd_ne (fun z => ndx z.symm)]; exact hb)) fun _ _ z => z).keep k2 fun x h z => D1.dom h (by rw [z]; exact hb)
  clear k1 D1 nD hb hdx ndx k2 nB
  have bB : ∀ {H : Hp} {gs : List Gm} {ds : List Int}, DeckAt H d MD → BookAt c H b MB gs ds → ∀ {H' : Hp}, Keep MD H H' → BookAt c H' b MB gs ds := fun D B _ k => B.keep k (fun _ h => D.cell h) nbD
  have dB : ∀ {H : Hp}, DeckAt H d MD → ∀ {H' : Hp}, Keep MB H H' → DeckAt H' d MD := fun D _ k => D.keep k fun x h z => nbD x z h
  have dS : ∀ {H : Hp}, DeckAt H d MD → ∀ {H' : Hp}, Keep Nil H H' → DeckAt H' d MD := fun D _ k => D.keep k fun x _ z => z
  repeat kaf_suf
  refine for_range (lo := 0) (n := (3 : Int).toNat) (fun i σ H' => ∃ (x3 x4 x5 x6 : Option V) (gs : List Gm) (ds : List Int), σ = [some (.ref a), some (.ref d), some (.ref b), x3, x4, x5, x6] ∧ DeckAt H' d MD ∧ BookAt c H' b MB gs ds ∧ gs.length ≤ 1 + 3072 * i) ⟨_, _, _, _, _, _, rfl, D2, B2, by show 1 ≤ _; omega⟩ ?_ ?_
  · rintro i σ H3 hi ⟨x3, x4, x5, x6, gs, ds, rfl, D3, B3, g3⟩
    clear D2 B2
    have hi3 : i < 3 := hi
    repeat kaf_suf
    refine ⟨rfl, d, MD, rfl, D3, fun H4 fl rows k4 D4 nfl efl ok l9 => ?_⟩
    have B4 := bB D3 B3 k4
    have nflD : ¬ MD fl := D3.new nfl
    have nflB : ¬ MB fl := B3.new nfl
    clear D3 B3 k4
    repeat kaf_suf
    refine for_range (lo := 0) (n := (3 : Int).toNat) (fun j σ H' => ∃ (x5 x6 : Option V) (fl : Addr) (rows : List (List Nat)) (gs : List Gm) (ds : List Int), σ = [some (.ref a), some (.ref d), some (.ref b), some (.int (0 + (i : Int))), some (.ref fl), x5, x6] ∧ OkFl rows ∧ (frOf rows).length ≤ 9 ∧ H' fl = some (.lst (lR rows)) ∧ ¬ MD fl ∧ ¬ MB fl ∧ DeckAt H' d MD ∧ BookAt c H' b MB gs ds ∧ gs.length ≤ 1 + 3072 * i + 1024 * j) ⟨_, _, fl, rows, gs, ds, rfl, ok, l9, efl, nflD, nflB, D4, B4, by omega⟩ ?_ ?_
    rotate_left
    · rintro σ H6 ⟨x5, x6, fl, rows, gs, ds, rfl, _, _, _, _, _, D6, B6, g6⟩
      repeat kaf_suf
      exact ⟨_, _, _, _, gs, ds, rfl, D6, B6, by omega⟩
    clear D4 B4 efl nflD nflB ok l9 nfl
    rintro j σ H6 hj ⟨x5, x6, fl, rows, gs, ds, rfl, ok, l9, efl, nflD, nflB, D6, B6, g6⟩
    have hj3 : j < 3 := hj
    repeat kaf_suf
    refine ⟨rfl, b, fl, MB, gs, ds, rows, rfl, B6, by omega, efl, nflB, ok, by omega, fun H7 f e k7 B7 f7 => ?_⟩
    have D7 := dB D6 k7
    have efl7 := k7 _ _ nflB efl
    clear D6 B6 k7 efl
    repeat kaf_suf
    refine ⟨rfl, fl, true, rows, rfl, efl7, ok, fun H8 pl qs rss k8 hp ep pq rl qn rm => ?_⟩
    have efl8 := k8.get (fun z => z) efl7
    repeat kaf_suf
    refine ⟨rfl, fl, false, rows, rfl, efl8, ok, fun H9 pr qs9 rss9 k9 hp9 ep9 pq9 rl9 qn9 rm9 => ?_⟩
    have ep' := k9.get (fun z => z) ep
    have pq' := paired_keep pq fun _ _ h => k9.get (fun z => z) h
    have ql := Paired.length pq
    have ql9 := Paired.length pq9
    repeat kaf_suf
    intro r hr
    rw [← List.map_append]
    have kr : Keep Nil H7 (upd H9 r (.lst ((qs ++ qs9).map V.ref))) := (k8.trans k9).new hr
    have er : (upd H9 r (.lst ((qs ++ qs9).map V.ref))) r = some (.lst ((qs ++ qs9).map V.ref)) := upd_same
    have n0 : H7 r = none := keep_none (k8.trans k9) hr
    have pqA : Paired (FlAt (upd H9 r (.lst ((qs ++ qs9).map V.ref)))) (qs ++ qs9) (rss ++ rss9) := paired_append (paired_keep pq' fun _ _ h => get_new hr h) (paired_keep pq9 fun _ _ h => get_new hr h)
    generalize upd H9 r (.lst ((qs ++ qs9).map V.ref)) = H10 at kr er pqA ⊢
    have D10 := dS D7 kr
    have B10 := B7.same kr
    have nrD := D7.new n0
    have nrB := B7.new n0
    have efl10 := kr.get (fun z => z) efl7
    have qnA : ∀ q ∈ qs ++ qs9, ¬ MD q ∧ ¬ MB q := fun q hq => by
      have : H7 q = none := by
        rcases List.mem_append.mp hq with h | h
        · exact qn q h
        · exact keep_none k8 (qn9 q h)
      exact ⟨D7.new this, B7.new this⟩
    have oX : ∀ x ∈ rss ++ rss9, OkFl x ∧ (frOf x).length ≤ 9 := fun x hx => by
      rcases List.mem_append.mp hx with h | h
      · obtain ⟨y, a, _, rfl⟩ := (rm x).mp h
        exact ⟨brick_ok ok y a, Nat.le_trans brick_le l9⟩
      · obtain ⟨y, a, _, rfl⟩ := (rm9 x).mp h
        exact ⟨brick_ok ok y a, Nat.le_trans brick_le l9⟩
    clear k8 hp ep pq qn rm k9 hp9 ep9 pq9 qn9 rm9 ep' pq' efl8 kr hr n0 D7 B7 efl7
    repeat kaf_suf
    intro p hp
    have kp : Keep Nil H10 (upd H10 p (.lst [])) := Keep.alloc hp
    refine v_neD (d := .list ((rss ++ rss9).map dTx)) (e := .list []) (dpFl (kp.get (fun z => z) er) (paired_keep pqA fun _ _ h => kp.get (fun z => z) h)) (.lst (SqL.of upd_same) .nil) (dFl_sh fun x hx => (oX x hx).1) (dInts_sh []) ?_
    rw [eqv_dFl]
    have er' := kp.get (fun z => z) er
    have D11 := dS D10 kp
    have B11 := B10.same kp
    have efl11 := kp.get (fun z => z) efl10
    have pqB := paired_keep pqA fun _ _ h => kp.get (fun z => z) h
    generalize upd H10 p (.lst []) = H11 at kp er' D11 B11 efl11 pqB ⊢
    clear hp kp er D10 B10 efl10 pqA
    have qlA := Paired.length pqB
    have el : ((qs ++ qs9).map V.ref).length = (rss ++ rss9).length := by rw [List.length_map]; exact qlA
    have ll : (rss ++ rss9).length ≤ 48 := by
      have : (qs ++ qs9).length = qs.length + qs9.length := List.length_append
      have : (rss ++ rss9).length = rss.length + rss9.length := List.length_append
      omega
    have fg : (gs ++ f).length = gs.length + f.length := List.length_append
    refine r_kB (r_iteN (fun ne => ?_) (fun e => ?_))
    · have pos : 0 < (rss ++ rss9).length := List.length_pos_iff.mpr ne
      repeat kaf_suf
      refine ⟨rfl, d, _, MD, rfl, by rw [el]; omega, by rw [el]; omega, D11, fun H12 n k12 D12 n0 n1 => ?_⟩
      rw [el] at n1
      have B12 := bB D11 B11 k12
      have er12 := k12 _ _ nrD er'
      obtain ⟨n, rfl⟩ := Int.eq_ofNat_of_zero_le n0
      obtain ⟨x, hx⟩ : ∃ x, (rss ++ rss9)[n]? = some x := ⟨_, List.getElem?_eq_getElem (by omega)⟩
      obtain ⟨q, hq, eq⟩ := paired_get pqB hx
      have nq := qnA q (List.mem_of_getElem? hq)
      have eq12 := k12 _ _ nq.1 eq
      have hat : atI ((qs ++ qs9).map V.ref) (n : Int) = some (.ref q) := atI_get (n := n) (by rw [List.getElem?_map, hq]; rfl) rfl
      have ox := oX x (List.mem_of_getElem? hx)
      repeat kaf_suf
      exact ⟨_, _, q, x, _, _, rfl, ox.1, ox.2, eq12, nq.1, nq.2, D12, B12, by omega⟩
    · repeat kaf_suf
      exact ⟨_, _, fl, rows, _, _, rfl, ok, l9, efl11, nflD, nflB, D11, B11, by omega⟩
  · rintro σ H3 ⟨x3, x4, x5, x6, gs, ds, rfl, D3, B3, g3⟩
    clear D2 B2
    have g3' : gs.length ≤ 10000 := by
      have : (3 : Int).toNat = 3 := rfl
      omega
    refine ⟨fun σ H' => ∃ (x3 x4 x5 x6 : Option V), σ = [some (.ref a), some (.ref d), some (.ref b), x3, x4, x5, x6], ?_, ?_⟩
    · repeat kaf_suf
      refine ⟨rfl, d, 8, MD, rfl, by decide, by decide, D3, fun H4 n k4 D4 n0 n1 => ?_⟩
      have B4 := bB D3 B3 k4
      repeat kaf_suf
      refine r_ite (fun e => ?_) (fun e => ?_)
      · repeat kaf_suf
        intro p hp
        have ep : (upd H4 p (.lst [.str ".....", .str "....."])) p = some (.lst (lR [[46, 46, 46, 46, 46], [46, 46, 46, 46, 46]])) := upd_same
        have np := B4.new hp
        have B5 := B4.same (Keep.alloc (o := .lst [.str ".....", .str "....."]) hp)
        repeat kaf_suf
        refine ⟨rfl, b, p, MB, gs, ds, _, rfl, B5, by omega, ep, np, ⟨by decide, by decide, 5, by decide, by decide, by decide⟩, by decide, fun H7 f e k7 B7 f7 => ?_⟩
        repeat kaf_suf
        exact ⟨_, _, _, _, rfl⟩
      · repeat kaf_suf
        exact ⟨_, _, _, _, rfl⟩
    · rintro σ H4 ⟨x3, x4, x5, x6, rfl⟩
      have fin : ∀ {H : Hp} {b : Addr} {M : Addr → Prop} {ch : Nat} {p : Addr} {Q : VK}, (ch = 46 ∨ ch = 35) → BookAt c H b M [([], [])] [0] → H p = none → (∀ H', Q (.int 0) H') → sp_floor_game c [.ref b, .ref p] (upd H p (.lst [.str (T1 ch)])) Q E0 := fun {H b M ch p Q} hc B hp q => by
        have l1 : (frOf (lit1 ch)).length ≤ 1 := by
          rcases hc with rfl | rfl <;> decide
        refine ⟨rfl, b, p, M, _, _, lit1 ch, frOf (lit1 ch), 1, rfl, B.same (Keep.alloc hp), by unfold InvF; show 1 ≤ _; omega, upd_same, lit_ok hc, List.Sublist.refl _, by omega, by decide, fun H' f e g k' B' I' sg => ?_⟩
        have e0 : g = 0 := (sg.zero B'.ok).mpr fun s x mv => no_mv l1 mv
        subst e0
        exact q H'
      repeat kaf_suf
      intro b dx hb hdx ndx
      repeat kaf_suf
      refine ⟨rfl, b, dx, rfl, upd_same, fun H5 M k5 B5 _ => ⟨rfl, ?_⟩⟩
      repeat kaf_suf
      intro p hp
      repeat kaf_suf
      refine fin (.inr rfl) B5 hp fun H6 => ?_
      repeat kaf_suf
      intro b2 dx2 hb2 hdx2 ndx2
      repeat kaf_suf
      refine ⟨rfl, b2, dx2, rfl, upd_same, fun H7 M2 k7 B7 _ => ⟨rfl, ?_⟩⟩
      repeat kaf_suf
      intro p2 hp2
      repeat kaf_suf
      refine fin (.inl rfl) B7 hp2 fun H8 => ?_
      repeat kaf_suf
      exact k _
theorem ok_law {c : Cn} {mg : Str → Option Value} {base : Heap} {f : Addr} {fd : FuncData} (T : Txt c mg) (F : Fun c.K "law" "law" s_law f fd) : FnOk c.P c.w c.K mg base CX0 21 f fd ["script"] (sp_law_law c.K) :=
  F.ok (k := 20) (N := N_law) sc_law (fun vs H Q E h => h.1) (fun cdv A outer s H vs Q E hr h => ⟨t_law c, by
  exact (pss_cons (ps_set (i := 1) sc_law.nd rfl (Or.inl rfl) (e_call (cal_law_deck T) hr (by decide) pass0 rfl (pa_cons (pv 0) pa_nil)))
  (pss_cons (ps_set (i := 2) sc_law.nd rfl (Or.inl rfl) (e_make0 (mak_Book T) hr (by decide) pass0 rfl))
  (pss_cons (ps_for PassesOwn.never rfl (pi_range1 rfl T.n_range (pa_cons pe_int pa_nil)) (pg_name (i := 3) sc_law.nd rfl (Or.inl rfl))
  (pss_cons (ps_set (i := 4) sc_law.nd rfl (Or.inl rfl) (e_call (cal_law_floor T) hr (by decide) pass0 rfl (pa_cons (pv 1) pa_nil)))
  (pss_one (ps_for PassesOwn.never rfl (pi_range1 rfl T.n_range (pa_cons pe_int pa_nil)) (pg_name (i := 5) sc_law.nd rfl (Or.inl rfl))
  (pss_cons (ps_if (pt_not (p_tru (e_call (cal_law_right T) hr (by decide) pass0 rfl (pa_cons (pv 2) (pa_cons (pv 4) pa_nil))))) (pss_one (ps_ret pe_bl)) pss_nil)
  (pss_cons (ps_set (i := 6) sc_law.nd rfl (Or.inl rfl) (pe_op o_add (e_call (cal_law_behind T) hr (by decide) pass0 rfl (pa_cons (pv 4) (pa_cons pe_int (pa_cons pe_int pa_nil)))) (e_call (cal_law_behind T) hr (by decide) pass0 rfl (pa_cons (pv 4) (pa_cons pe_int (pa_cons pe_int pa_nil))))))
  (pss_one (ps_if (pt_cmpR (o_ne (hu64 hr)) (pv 6) (pe_lst pa_nil) (nomark _)) (pss_one (ps_set (i := 4) sc_law.nd rfl (Or.inl rfl) (pe_ix (x_ix (hu64 hr)) (pv 6) (e_call (cal_law_draw T) hr (by decide) pass0 rfl (pa_cons (pv 1) (pa_cons (pe_callB k_len (by rfl) T.n_len (by decide +kernel) (pa_cons (pv 6) pa_nil)) pa_nil))) (fun _ _ => rfl)))) pss_nil))))))))
  (C8.pss_cut (ps_if (pt_cmpR (o_eq (hu64 hr)) (e_call (cal_law_draw T) hr (by decide) pass0 rfl (pa_cons (pv 1) (pa_cons pe_int pa_nil))) pe_int (nomark _)) (pss_one (ps_if (pt_not (p_tru (e_call (cal_law_right T) hr (by decide) pass0 rfl (pa_cons (pv 2) (pa_cons (pe_lst (pa_cons pe_str (pa_cons pe_str pa_nil))) pa_nil))))) (pss_one (ps_ret pe_bl)) pss_nil)) pss_nil)
  (pss_one (ps_ret (pe_and (pe_cmpR (o_eq (hu64 hr)) (e_call (cal_floor_game T) hr (by decide) pass0 rfl (pa_cons (e_make0 (mak_Book T) hr (by decide) pass0 rfl) (pa_cons (pe_lst (pa_cons pe_str pa_nil)) pa_nil))) pe_int (nomark _)) (pe_one (pe_cmpR (o_eq (hu64 hr)) (e_call (cal_floor_game T) hr (by decide) pass0 rfl (pa_cons (e_make0 (mak_Book T) hr (by decide) pass0 rfl) (pa_cons (pe_lst (pa_cons pe_str pa_nil)) pa_nil))) pe_int (nomark _)))))))))), p_law T h⟩)
theorem all_mk {l : PySem.W.OpenLaw} {w : World} {K : PySem.W.Frag} {h : Heap} {mg : Str → Option Value} {fa : Addr} (X : K.In h) (G : h.Ns mainGlobals mg) (hfa : mg "law" = some (.ref fa))
    {aGameError aNoGame aNoBoard aFloors aBook : Addr}
    {tk_MOST_ROWS : _}
    {tk_MOST_SIDE : _}
    {f_law_draw : Addr} {od_law_draw an_law_draw : Option Addr} {sl_law_draw : Array (Option Value)} {oc_law_draw kV_law_draw dc_law_draw pm_law_draw cd_law_draw ct_law_draw : Value}
    {f_law_deck : Addr} {od_law_deck an_law_deck : Option Addr} {sl_law_deck : Array (Option Value)} {oc_law_deck kV_law_deck dc_law_deck pm_law_deck cd_law_deck ct_law_deck : Value}
    {f_Book_need : Addr} {od_Book_need an_Book_need : Option Addr} {sl_Book_need : Array (Option Value)} {oc_Book_need kV_Book_need dc_Book_need pm_Book_need cd_Book_need ct_Book_need : Value}
    {f_Book_game : Addr} {od_Book_game an_Book_game : Option Addr} {sl_Book_game : Array (Option Value)} {oc_Book_game kV_Book_game dc_Book_game pm_Book_game cd_Book_game ct_Book_game : Value}
    {f_Book_init : Addr} {od_Book_init an_Book_init : Option Addr} {sl_Book_init : Array (Option Value)} {oc_Book_init kV_Book_init dc_Book_init pm_Book_init cd_Book_init ct_Book_init : Value}
    {f_Book_many : Addr} {od_Book_many an_Book_many : Option Addr} {sl_Book_many : Array (Option Value)} {oc_Book_many kV_Book_many dc_Book_many pm_Book_many cd_Book_many ct_Book_many : Value}
    {f_is_text_of : Addr} {od_is_text_of an_is_text_of : Option Addr} {sl_is_text_of : Array (Option Value)} {oc_is_text_of kV_is_text_of dc_is_text_of pm_is_text_of cd_is_text_of ct_is_text_of : Value}
    {f_is_floor : Addr} {od_is_floor an_is_floor : Option Addr} {sl_is_floor : Array (Option Value)} {oc_is_floor kV_is_floor dc_is_floor pm_is_floor cd_is_floor ct_is_floor : Value}
    {f_Floors_init : Addr} {od_Floors_init an_Floors_init : Option Addr} {sl_Floors_init : Array (Option Value)} {oc_Floors_init kV_Floors_init dc_Floors_init pm_Floors_init cd_Floors_init ct_Floors_init : Value}
    {f_Floors_behind : Addr} {od_Floors_behind an_Floors_behind : Option Addr} {sl_Floors_behind : Array (Option Value)} {oc_Floors_behind kV_Floors_behind dc_Floors_behind pm_Floors_behind cd_Floors_behind ct_Floors_behind : Value}
    {f_Floors_game : Addr} {od_Floors_game an_Floors_game : Option Addr} {sl_Floors_game : Array (Option Value)} {oc_Floors_game kV_Floors_game dc_Floors_game pm_Floors_game cd_Floors_game ct_Floors_game : Value}
    {f_floor_game : Addr} {od_floor_game an_floor_game : Option Addr} {sl_floor_game : Array (Option Value)} {oc_floor_game kV_floor_game dc_floor_game pm_floor_game cd_floor_game ct_floor_game : Value}
    {f_law_floor : Addr} {od_law_floor an_law_floor : Option Addr} {sl_law_floor : Array (Option Value)} {oc_law_floor kV_law_floor dc_law_floor pm_law_floor cd_law_floor ct_law_floor : Value}
    {f_law_behind : Addr} {od_law_behind an_law_behind : Option Addr} {sl_law_behind : Array (Option Value)} {oc_law_behind kV_law_behind dc_law_behind pm_law_behind cd_law_behind ct_law_behind : Value}
    {f_law_right : Addr} {od_law_right an_law_right : Option Addr} {sl_law_right : Array (Option Value)} {oc_law_right kV_law_right dc_law_right pm_law_right cd_law_right ct_law_right : Value}
    {f_Book_depth : Addr} {od_Book_depth an_Book_depth : Option Addr} {sl_Book_depth : Array (Option Value)} {oc_Book_depth kV_Book_depth dc_Book_depth pm_Book_depth cd_Book_depth ct_Book_depth : Value}
    {f_Book_lefts : Addr} {od_Book_lefts an_Book_lefts : Option Addr} {sl_Book_lefts : Array (Option Value)} {oc_Book_lefts kV_Book_lefts dc_Book_lefts pm_Book_lefts cd_Book_lefts ct_Book_lefts : Value}
    {f_Book_rights : Addr} {od_Book_rights an_Book_rights : Option Addr} {sl_Book_rights : Array (Option Value)} {oc_Book_rights kV_Book_rights dc_Book_rights pm_Book_rights cd_Book_rights ct_Book_rights : Value}
    {f_law : Addr} {od_law an_law : Option Addr} {sl_law : Array (Option Value)} {oc_law kV_law dc_law pm_law cd_law ct_law : Value}
    (a_GameError : PySem.W.nsIn K mainGlobals "GameError" = some (some (.ref aGameError)))
    (a_NoGame : PySem.W.nsIn K mainGlobals "NoGame" = some (some (.ref aNoGame)))
    (a_NoBoard : PySem.W.nsIn K mainGlobals "NoBoard" = some (some (.ref aNoBoard)))
    (a_Floors : PySem.W.nsIn K mainGlobals "Floors" = some (some (.ref aFloors)))
    (a_Book : PySem.W.nsIn K mainGlobals "Book" = some (some (.ref aBook)))
    (pg_Floors : PySem.W.plainGet K aFloors Str.empty = true)
    (hd_Floors : PySem.W.hasDictIn K aFloors = true)
    (po_Floors : PySem.W.plainOver K aFloors = true)
    (sa_Floors : PySem.W.findIn K (.ref aFloors) "__setattr__" = some (some (.builtin "object.__setattr__")))
    (mk_Floors : PySem.W.makesIn K aFloors = true)
    (kc_Floors : PySem.W.keepIn K (.ref aFloors) = true)
    (na_Floors_book : PySem.W.findIn K (.ref aFloors) "book" = some none)
    (na_Floors_games : PySem.W.findIn K (.ref aFloors) "games" = some none)
    (pg_Book : PySem.W.plainGet K aBook Str.empty = true)
    (hd_Book : PySem.W.hasDictIn K aBook = true)
    (po_Book : PySem.W.plainOver K aBook = true)
    (sa_Book : PySem.W.findIn K (.ref aBook) "__setattr__" = some (some (.builtin "object.__setattr__")))
    (mk_Book : PySem.W.makesIn K aBook = true)
    (kc_Book : PySem.W.keepIn K (.ref aBook) = true)
    (na_Book_depths : PySem.W.findIn K (.ref aBook) "depths" = some none)
    (na_Book_moves : PySem.W.findIn K (.ref aBook) "moves" = some none)
    (na_Book_numbers : PySem.W.findIn K (.ref aBook) "numbers" = some none)
    (n_bool : PySem.W.nsIn K mainGlobals "bool" = some none)
    (n_enumerate : PySem.W.nsIn K mainGlobals "enumerate" = some none)
    (n_int : PySem.W.nsIn K mainGlobals "int" = some none)
    (n_isinstance : PySem.W.nsIn K mainGlobals "isinstance" = some none)
    (n_len : PySem.W.nsIn K mainGlobals "len" = some none)
    (n_list : PySem.W.nsIn K mainGlobals "list" = some none)
    (n_max : PySem.W.nsIn K mainGlobals "max" = some none)
    (n_min : PySem.W.nsIn K mainGlobals "min" = some none)
    (n_range : PySem.W.nsIn K mainGlobals "range" = some none)
    (n_set : PySem.W.nsIn K mainGlobals "set" = some none)
    (n_sorted : PySem.W.nsIn K mainGlobals "sorted" = some none)
    (n_str : PySem.W.nsIn K mainGlobals "str" = some none)
    (n_tuple : PySem.W.nsIn K mainGlobals "tuple" = some none)
    (v_MOST_ROWS : PySem.W.nsIn K mainGlobals "MOST_ROWS" = some (some (.int 4 tk_MOST_ROWS)))
    (v_MOST_SIDE : PySem.W.nsIn K mainGlobals "MOST_SIDE" = some (some (.int 6 tk_MOST_SIDE)))
    (a_law_draw : PySem.W.nsIn K mainGlobals "_law_draw" = some (some (.ref f_law_draw)))
    (l_law_draw : K.lookup f_law_draw = some ⟨oc_law_draw, od_law_draw, .func (PySem.W.fnOf "_law_draw" "_law_draw" (defArgs s_law_draw) (defBody s_law_draw) (defScope s_law_draw) .none kV_law_draw dc_law_draw pm_law_draw an_law_draw cd_law_draw ct_law_draw), sl_law_draw⟩)
    (c_law_draw : PySem.W.codeIn K cd_law_draw "_law_draw" = true)
    (k_law_draw : PySem.W.keepIn K (.ref f_law_draw) = true)
    (a_law_deck : PySem.W.nsIn K mainGlobals "_law_deck" = some (some (.ref f_law_deck)))
    (l_law_deck : K.lookup f_law_deck = some ⟨oc_law_deck, od_law_deck, .func (PySem.W.fnOf "_law_deck" "_law_deck" (defArgs s_law_deck) (defBody s_law_deck) (defScope s_law_deck) .none kV_law_deck dc_law_deck pm_law_deck an_law_deck cd_law_deck ct_law_deck), sl_law_deck⟩)
    (c_law_deck : PySem.W.codeIn K cd_law_deck "_law_deck" = true)
    (k_law_deck : PySem.W.keepIn K (.ref f_law_deck) = true)
    (a_Book_need : PySem.W.findIn K (.ref aBook) "need" = some (some (.ref f_Book_need)))
    (i_Book_need : PySem.W.isFn K (.ref f_Book_need) = true)
    (l_Book_need : K.lookup f_Book_need = some ⟨oc_Book_need, od_Book_need, .func (PySem.W.fnOf "need" "Book.need" (defArgs s_Book_need) (defBody s_Book_need) (defScope s_Book_need) .none kV_Book_need dc_Book_need pm_Book_need an_Book_need cd_Book_need ct_Book_need), sl_Book_need⟩)
    (c_Book_need : PySem.W.codeIn K cd_Book_need "Book.need" = true)
    (k_Book_need : PySem.W.keepIn K (.ref f_Book_need) = true)
    (a_Book_game : PySem.W.findIn K (.ref aBook) "game" = some (some (.ref f_Book_game)))
    (i_Book_game : PySem.W.isFn K (.ref f_Book_game) = true)
    (l_Book_game : K.lookup f_Book_game = some ⟨oc_Book_game, od_Book_game, .func (PySem.W.fnOf "game" "Book.game" (defArgs s_Book_game) (defBody s_Book_game) (defScope s_Book_game) .none kV_Book_game dc_Book_game pm_Book_game an_Book_game cd_Book_game ct_Book_game), sl_Book_game⟩)
    (c_Book_game : PySem.W.codeIn K cd_Book_game "Book.game" = true)
    (k_Book_game : PySem.W.keepIn K (.ref f_Book_game) = true)
    (a_Book_init : PySem.W.findIn K (.ref aBook) "__init__" = some (some (.ref f_Book_init)))
    (i_Book_init : PySem.W.isFn K (.ref f_Book_init) = true)
    (l_Book_init : K.lookup f_Book_init = some ⟨oc_Book_init, od_Book_init, .func (PySem.W.fnOf "__init__" "Book.__init__" (defArgs s_Book_init) (defBody s_Book_init) (defScope s_Book_init) .none kV_Book_init dc_Book_init pm_Book_init an_Book_init cd_Book_init ct_Book_init), sl_Book_init⟩)
    (c_Book_init : PySem.W.codeIn K cd_Book_init "Book.__init__" = true)
    (k_Book_init : PySem.W.keepIn K (.ref f_Book_init) = true)
    (a_Book_many : PySem.W.findIn K (.ref aBook) "many" = some (some (.ref f_Book_many)))
    (i_Book_many : PySem.W.isFn K (.ref f_Book_many) = true)
    (l_Book_many : K.lookup f_Book_many = some ⟨oc_Book_many, od_Book_many, .func (PySem.W.fnOf "many" "Book.many" (defArgs s_Book_many) (defBody s_Book_many) (defScope s_Book_many) .none kV_Book_many dc_Book_many pm_Book_many an_Book_many cd_Book_many ct_Book_many), sl_Book_many⟩)
    (c_Book_many : PySem.W.codeIn K cd_Book_many "Book.many" = true)
    (k_Book_many : PySem.W.keepIn K (.ref f_Book_many) = true)
    (a_is_text_of : PySem.W.nsIn K mainGlobals "is_text_of" = some (some (.ref f_is_text_of)))
    (l_is_text_of : K.lookup f_is_text_of = some ⟨oc_is_text_of, od_is_text_of, .func (PySem.W.fnOf "is_text_of" "is_text_of" (defArgs s_is_text_of) (defBody s_is_text_of) (defScope s_is_text_of) .none kV_is_text_of dc_is_text_of pm_is_text_of an_is_text_of cd_is_text_of ct_is_text_of), sl_is_text_of⟩)
    (c_is_text_of : PySem.W.codeIn K cd_is_text_of "is_text_of" = true)
    (k_is_text_of : PySem.W.keepIn K (.ref f_is_text_of) = true)
    (a_is_floor : PySem.W.nsIn K mainGlobals "is_floor" = some (some (.ref f_is_floor)))
    (l_is_floor : K.lookup f_is_floor = some ⟨oc_is_floor, od_is_floor, .func (PySem.W.fnOf "is_floor" "is_floor" (defArgs s_is_floor) (defBody s_is_floor) (defScope s_is_floor) .none kV_is_floor dc_is_floor pm_is_floor an_is_floor cd_is_floor ct_is_floor), sl_is_floor⟩)
    (c_is_floor : PySem.W.codeIn K cd_is_floor "is_floor" = true)
    (k_is_floor : PySem.W.keepIn K (.ref f_is_floor) = true)
    (a_Floors_init : PySem.W.findIn K (.ref aFloors) "__init__" = some (some (.ref f_Floors_init)))
    (i_Floors_init : PySem.W.isFn K (.ref f_Floors_init) = true)
    (l_Floors_init : K.lookup f_Floors_init = some ⟨oc_Floors_init, od_Floors_init, .func (PySem.W.fnOf "__init__" "Floors.__init__" (defArgs s_Floors_init) (defBody s_Floors_init) (defScope s_Floors_init) .none kV_Floors_init dc_Floors_init pm_Floors_init an_Floors_init cd_Floors_init ct_Floors_init), sl_Floors_init⟩)
    (c_Floors_init : PySem.W.codeIn K cd_Floors_init "Floors.__init__" = true)
    (k_Floors_init : PySem.W.keepIn K (.ref f_Floors_init) = true)
    (a_Floors_behind : PySem.W.findIn K (.ref aFloors) "behind" = some (some (.ref f_Floors_behind)))
    (i_Floors_behind : PySem.W.isFn K (.ref f_Floors_behind) = true)
    (l_Floors_behind : K.lookup f_Floors_behind = some ⟨oc_Floors_behind, od_Floors_behind, .func (PySem.W.fnOf "behind" "Floors.behind" (defArgs s_Floors_behind) (defBody s_Floors_behind) (defScope s_Floors_behind) .none kV_Floors_behind dc_Floors_behind pm_Floors_behind an_Floors_behind cd_Floors_behind ct_Floors_behind), sl_Floors_behind⟩)
    (c_Floors_behind : PySem.W.codeIn K cd_Floors_behind "Floors.behind" = true)
    (k_Floors_behind : PySem.W.keepIn K (.ref f_Floors_behind) = true)
    (a_Floors_game : PySem.W.findIn K (.ref aFloors) "game" = some (some (.ref f_Floors_game)))
    (i_Floors_game : PySem.W.isFn K (.ref f_Floors_game) = true)
    (l_Floors_game : K.lookup f_Floors_game = some ⟨oc_Floors_game, od_Floors_game, .func (PySem.W.fnOf "game" "Floors.game" (defArgs s_Floors_game) (defBody s_Floors_game) (defScope s_Floors_game) .none kV_Floors_game dc_Floors_game pm_Floors_game an_Floors_game cd_Floors_game ct_Floors_game), sl_Floors_game⟩)
    (c_Floors_game : PySem.W.codeIn K cd_Floors_game "Floors.game" = true)
    (k_Floors_game : PySem.W.keepIn K (.ref f_Floors_game) = true)
    (a_floor_game : PySem.W.nsIn K mainGlobals "floor_game" = some (some (.ref f_floor_game)))
    (l_floor_game : K.lookup f_floor_game = some ⟨oc_floor_game, od_floor_game, .func (PySem.W.fnOf "floor_game" "floor_game" (defArgs s_floor_game) (defBody s_floor_game) (defScope s_floor_game) .none kV_floor_game dc_floor_game pm_floor_game an_floor_game cd_floor_game ct_floor_game), sl_floor_game⟩)
    (c_floor_game : PySem.W.codeIn K cd_floor_game "floor_game" = true)
    (k_floor_game : PySem.W.keepIn K (.ref f_floor_game) = true)
    (a_law_floor : PySem.W.nsIn K mainGlobals "_law_floor" = some (some (.ref f_law_floor)))
    (l_law_floor : K.lookup f_law_floor = some ⟨oc_law_floor, od_law_floor, .func (PySem.W.fnOf "_law_floor" "_law_floor" (defArgs s_law_floor) (defBody s_law_floor) (defScope s_law_floor) .none kV_law_floor dc_law_floor pm_law_floor an_law_floor cd_law_floor ct_law_floor), sl_law_floor⟩)
    (c_law_floor : PySem.W.codeIn K cd_law_floor "_law_floor" = true)
    (k_law_floor : PySem.W.keepIn K (.ref f_law_floor) = true)
    (a_law_behind : PySem.W.nsIn K mainGlobals "_law_behind" = some (some (.ref f_law_behind)))
    (l_law_behind : K.lookup f_law_behind = some ⟨oc_law_behind, od_law_behind, .func (PySem.W.fnOf "_law_behind" "_law_behind" (defArgs s_law_behind) (defBody s_law_behind) (defScope s_law_behind) .none kV_law_behind dc_law_behind pm_law_behind an_law_behind cd_law_behind ct_law_behind), sl_law_behind⟩)
    (c_law_behind : PySem.W.codeIn K cd_law_behind "_law_behind" = true)
    (k_law_behind : PySem.W.keepIn K (.ref f_law_behind) = true)
    (a_law_right : PySem.W.nsIn K mainGlobals "_law_right" = some (some (.ref f_law_right)))
    (l_law_right : K.lookup f_law_right = some ⟨oc_law_right, od_law_right, .func (PySem.W.fnOf "_law_right" "_law_right" (defArgs s_law_right) (defBody s_law_right) (defScope s_law_right) .none kV_law_right dc_law_right pm_law_right an_law_right cd_law_right ct_law_right), sl_law_right⟩)
    (c_law_right : PySem.W.codeIn K cd_law_right "_law_right" = true)
    (k_law_right : PySem.W.keepIn K (.ref f_law_right) = true)
    (a_Book_depth : PySem.W.findIn K (.ref aBook) "depth" = some (some (.ref f_Book_depth)))
    (i_Book_depth : PySem.W.isFn K (.ref f_Book_depth) = true)
    (l_Book_depth : K.lookup f_Book_depth = some ⟨oc_Book_depth, od_Book_depth, .func (PySem.W.fnOf "depth" "Book.depth" (defArgs s_Book_depth) (defBody s_Book_depth) (defScope s_Book_depth) .none kV_Book_depth dc_Book_depth pm_Book_depth an_Book_depth cd_Book_depth ct_Book_depth), sl_Book_depth⟩)
    (c_Book_depth : PySem.W.codeIn K cd_Book_depth "Book.depth" = true)
    (k_Book_depth : PySem.W.keepIn K (.ref f_Book_depth) = true)
    (a_Book_lefts : PySem.W.findIn K (.ref aBook) "lefts" = some (some (.ref f_Book_lefts)))
    (i_Book_lefts : PySem.W.isFn K (.ref f_Book_lefts) = true)
    (l_Book_lefts : K.lookup f_Book_lefts = some ⟨oc_Book_lefts, od_Book_lefts, .func (PySem.W.fnOf "lefts" "Book.lefts" (defArgs s_Book_lefts) (defBody s_Book_lefts) (defScope s_Book_lefts) .none kV_Book_lefts dc_Book_lefts pm_Book_lefts an_Book_lefts cd_Book_lefts ct_Book_lefts), sl_Book_lefts⟩)
    (c_Book_lefts : PySem.W.codeIn K cd_Book_lefts "Book.lefts" = true)
    (k_Book_lefts : PySem.W.keepIn K (.ref f_Book_lefts) = true)
    (a_Book_rights : PySem.W.findIn K (.ref aBook) "rights" = some (some (.ref f_Book_rights)))
    (i_Book_rights : PySem.W.isFn K (.ref f_Book_rights) = true)
    (l_Book_rights : K.lookup f_Book_rights = some ⟨oc_Book_rights, od_Book_rights, .func (PySem.W.fnOf "rights" "Book.rights" (defArgs s_Book_rights) (defBody s_Book_rights) (defScope s_Book_rights) .none kV_Book_rights dc_Book_rights pm_Book_rights an_Book_rights cd_Book_rights ct_Book_rights), sl_Book_rights⟩)
    (c_Book_rights : PySem.W.codeIn K cd_Book_rights "Book.rights" = true)
    (k_Book_rights : PySem.W.keepIn K (.ref f_Book_rights) = true)
    (a_law : PySem.W.nsIn K mainGlobals "law" = some (some (.ref f_law)))
    (l_law : K.lookup f_law = some ⟨oc_law, od_law, .func (PySem.W.fnOf "law" "law" (defArgs s_law) (defBody s_law) (defScope s_law) .none kV_law dc_law pm_law an_law cd_law ct_law), sl_law⟩)
    (c_law : PySem.W.codeIn K cd_law "law" = true)
    (k_law : PySem.W.keepIn K (.ref f_law) = true)
    : ∃ fd : FuncData, (∀ (s : Shared) (v : Value), BindsTo s fd ⟨[v], []⟩ [("script", v)]) ∧ ∀ base : Heap, K.In base → base.Ns mainGlobals mg → FnOk l.prog w K mg base CX0 21 fa fd ["script"] (sp_law_law K) := by
  have e := hfa.symm.trans (PySem.W.mg_of X G a_law)
  cases e
  let c : Cn := { P := l.prog, w := w, K := K, cGameError := aGameError, cNoGame := aNoGame, cNoBoard := aNoBoard, cFloors := aFloors, cBook := aBook }
  have T : Txt c mg := { n_bool := PySem.W.mg_none_of X G n_bool, n_enumerate := PySem.W.mg_none_of X G n_enumerate, n_int := PySem.W.mg_none_of X G n_int, n_isinstance := PySem.W.mg_none_of X G n_isinstance, n_len := PySem.W.mg_none_of X G n_len, n_list := PySem.W.mg_none_of X G n_list, n_max := PySem.W.mg_none_of X G n_max, n_min := PySem.W.mg_none_of X G n_min, n_range := PySem.W.mg_none_of X G n_range, n_set := PySem.W.mg_none_of X G n_set, n_sorted := PySem.W.mg_none_of X G n_sorted, n_str := PySem.W.mg_none_of X G n_str, n_tuple := PySem.W.mg_none_of X G n_tuple, g_GameError := PySem.W.mg_of X G a_GameError, g_NoGame := PySem.W.mg_of X G a_NoGame, g_NoBoard := PySem.W.mg_of X G a_NoBoard, g_Floors := PySem.W.mg_of X G a_Floors, g_Book := PySem.W.mg_of X G a_Book, g_MOST_ROWS := ⟨_, PySem.W.mg_of X G v_MOST_ROWS⟩, g_MOST_SIDE := ⟨_, PySem.W.mg_of X G v_MOST_SIDE⟩, cl_Floors := ⟨pg_Floors, hd_Floors, po_Floors, sa_Floors⟩, na_Floors_book := na_Floors_book, na_Floors_games := na_Floors_games, cl_Book := ⟨pg_Book, hd_Book, po_Book, sa_Book⟩, na_Book_depths := na_Book_depths, na_Book_moves := na_Book_moves, na_Book_numbers := na_Book_numbers, F_law_draw := ⟨_, _, fun_mk (st := s_law_draw) l_law_draw c_law_draw k_law_draw, PySem.W.mg_of X G a_law_draw, ((fun_mk (st := s_law_draw) l_law_draw c_law_draw k_law_draw).binds (ps := ["deck", "many"]) fun _ _ _ _ _ _ us hl => match us, hl with | [_, _], _ => rfl)⟩, F_law_deck := ⟨_, _, fun_mk (st := s_law_deck) l_law_deck c_law_deck k_law_deck, PySem.W.mg_of X G a_law_deck, ((fun_mk (st := s_law_deck) l_law_deck c_law_deck k_law_deck).binds (ps := ["script"]) fun _ _ _ _ _ _ us hl => match us, hl with | [_], _ => rfl)⟩, F_Book_need := ⟨_, _, fun_mk (st := s_Book_need) l_Book_need c_Book_need k_Book_need, ⟨a_Book_need, i_Book_need, k_Book_need⟩, ((fun_mk (st := s_Book_need) l_Book_need c_Book_need k_Book_need).binds (ps := ["self", "g"]) fun _ _ _ _ _ _ us hl => match us, hl with | [_, _], _ => rfl)⟩, F_Book_game := ⟨_, _, fun_mk (st := s_Book_game) l_Book_game c_Book_game k_Book_game, ⟨a_Book_game, i_Book_game, k_Book_game⟩, ((fun_mk (st := s_Book_game) l_Book_game c_Book_game k_Book_game).binds (ps := ["self", "lefts", "rights"]) fun _ _ _ _ _ _ us hl => match us, hl with | [_, _, _], _ => rfl)⟩, F_Book_init := ⟨_, _, fun_mk (st := s_Book_init) l_Book_init c_Book_init k_Book_init, ⟨mk_Book, a_Book_init, i_Book_init, kc_Book⟩, ((fun_mk (st := s_Book_init) l_Book_init c_Book_init k_Book_init).binds (ps := ["self"]) fun _ _ _ _ _ _ us hl => match us, hl with | [_], _ => rfl)⟩, F_Book_many := ⟨_, _, fun_mk (st := s_Book_many) l_Book_many c_Book_many k_Book_many, ⟨a_Book_many, i_Book_many, k_Book_many⟩, ((fun_mk (st := s_Book_many) l_Book_many c_Book_many k_Book_many).binds (ps := ["self"]) fun _ _ _ _ _ _ us hl => match us, hl with | [_], _ => rfl)⟩, F_is_text_of := ⟨_, _, fun_mk (st := s_is_text_of) l_is_text_of c_is_text_of k_is_text_of, PySem.W.mg_of X G a_is_text_of, ((fun_mk (st := s_is_text_of) l_is_text_of c_is_text_of k_is_text_of).binds (ps := ["thing", "signs"]) fun _ _ _ _ _ _ us hl => match us, hl with | [_, _], _ => rfl)⟩, F_is_floor := ⟨_, _, fun_mk (st := s_is_floor) l_is_floor c_is_floor k_is_floor, PySem.W.mg_of X G a_is_floor, ((fun_mk (st := s_is_floor) l_is_floor c_is_floor k_is_floor).binds (ps := ["thing"]) fun _ _ _ _ _ _ us hl => match us, hl with | [_], _ => rfl)⟩, F_Floors_init := ⟨_, _, fun_mk (st := s_Floors_init) l_Floors_init c_Floors_init k_Floors_init, ⟨mk_Floors, a_Floors_init, i_Floors_init, kc_Floors⟩, ((fun_mk (st := s_Floors_init) l_Floors_init c_Floors_init k_Floors_init).binds (ps := ["self", "book"]) fun _ _ _ _ _ _ us hl => match us, hl with | [_, _], _ => rfl)⟩, F_Floors_behind := ⟨_, _, fun_mk (st := s_Floors_behind) l_Floors_behind c_Floors_behind k_Floors_behind, ⟨a_Floors_behind, i_Floors_behind, k_Floors_behind⟩, ((fun_mk (st := s_Floors_behind) l_Floors_behind c_Floors_behind k_Floors_behind).binds (ps := ["self", "free", "down", "across"]) fun _ _ _ _ _ _ us hl => match us, hl with | [_, _, _, _], _ => rfl)⟩, F_Floors_game := ⟨_, _, fun_mk (st := s_Floors_game) l_Floors_game c_Floors_game k_Floors_game, ⟨a_Floors_game, i_Floors_game, k_Floors_game⟩, ((fun_mk (st := s_Floors_game) l_Floors_game c_Floors_game k_Floors_game).binds (ps := ["self", "free"]) fun _ _ _ _ _ _ us hl => match us, hl with | [_, _], _ => rfl)⟩, F_floor_game := ⟨_, _, fun_mk (st := s_floor_game) l_floor_game c_floor_game k_floor_game, PySem.W.mg_of X G a_floor_game, ((fun_mk (st := s_floor_game) l_floor_game c_floor_game k_floor_game).binds (ps := ["book", "floor"]) fun _ _ _ _ _ _ us hl => match us, hl with | [_, _], _ => rfl)⟩, F_law_floor := ⟨_, _, fun_mk (st := s_law_floor) l_law_floor c_law_floor k_law_floor, PySem.W.mg_of X G a_law_floor, ((fun_mk (st := s_law_floor) l_law_floor c_law_floor k_law_floor).binds (ps := ["deck"]) fun _ _ _ _ _ _ us hl => match us, hl with | [_], _ => rfl)⟩, F_law_behind := ⟨_, _, fun_mk (st := s_law_behind) l_law_behind c_law_behind k_law_behind, PySem.W.mg_of X G a_law_behind, ((fun_mk (st := s_law_behind) l_law_behind c_law_behind k_law_behind).binds (ps := ["floor", "down", "across"]) fun _ _ _ _ _ _ us hl => match us, hl with | [_, _, _], _ => rfl)⟩, F_law_right := ⟨_, _, fun_mk (st := s_law_right) l_law_right c_law_right k_law_right, PySem.W.mg_of X G a_law_right, ((fun_mk (st := s_law_right) l_law_right c_law_right k_law_right).binds (ps := ["book", "floor"]) fun _ _ _ _ _ _ us hl => match us, hl with | [_, _], _ => rfl)⟩, F_Book_depth := ⟨_, _, fun_mk (st := s_Book_depth) l_Book_depth c_Book_depth k_Book_depth, ⟨a_Book_depth, i_Book_depth, k_Book_depth⟩, ((fun_mk (st := s_Book_depth) l_Book_depth c_Book_depth k_Book_depth).binds (ps := ["self", "g"]) fun _ _ _ _ _ _ us hl => match us, hl with | [_, _], _ => rfl)⟩, F_Book_lefts := ⟨_, _, fun_mk (st := s_Book_lefts) l_Book_lefts c_Book_lefts k_Book_lefts, ⟨a_Book_lefts, i_Book_lefts, k_Book_lefts⟩, ((fun_mk (st := s_Book_lefts) l_Book_lefts c_Book_lefts k_Book_lefts).binds (ps := ["self", "g"]) fun _ _ _ _ _ _ us hl => match us, hl with | [_, _], _ => rfl)⟩, F_Book_rights := ⟨_, _, fun_mk (st := s_Book_rights) l_Book_rights c_Book_rights k_Book_rights, ⟨a_Book_rights, i_Book_rights, k_Book_rights⟩, ((fun_mk (st := s_Book_rights) l_Book_rights c_Book_rights k_Book_rights).binds (ps := ["self", "g"]) fun _ _ _ _ _ _ us hl => match us, hl with | [_, _], _ => rfl)⟩ }
  exact ⟨_, fun s v => .of_eq rfl, fun base _ _ => ok_law T (fun_mk (st := s_law) l_law c_law k_law)⟩
theorem walk {l : PySem.W.OpenLaw} {q : Program} {loose : List Str} {XP : (Str → Option Value) → Heap → Prop} {YP : World → Heap → Prop} {d : DefRec} {K : Params → PySem.W.Frag} (hn : l.most = some 63) (hdf : d.params.defaults = [])
    (hY : ∀ (w : World) (h : Heap), YP w h → (K w.params).In h)
    (F : ∀ (w : World) (mg : Str → Option Value) (fa : Addr) (h : Heap), (K w.params).In h → h.Ns mainGlobals mg → mg d.name = some (.ref fa) →
      ∃ fd : FuncData, (∀ (s : Shared) (u : Value), BindsTo s fd ⟨[u], []⟩ [("script", u)]) ∧ ∀ base : Heap, (K w.params).In base → base.Ns mainGlobals mg → FnOk l.prog w (K w.params) mg base CX0 21 fa fd ["script"] (sp_law_law (K w.params))) :
    PySem.W.WalkO q loose XP YP l.row.toRowW d [] (fun f vs => PySem.call f vs) :=
  L2.walk_of (n := 63) (k := 21) (x := "script") (CX := fun _ => CX0) (sp := fun w => sp_law_law (K w.params)) hn (by decide) hdf ⟨rfl, by decide, by decide⟩ hY F (fun _ H a ns hl _ hS => ⟨rfl, a, ns, rfl, hS, hl, fun _ => rfl⟩) fun _ _ _ _ _ z => z
end Hm

open PySem PySem.W PyProof.Rows in
set_option maxRecDepth 100000 in
set_option maxHeartbeats 0 in
theorem PySem.Challenge.cw_hotmoves_k72_floors_holds : PySem.Challenge.rw_hotmoves_k72_floors.Holds := by
  w_on; o_law; k_head; (case hw => w_witness2)
  k_fill
  refine Hm.walk (l := PySem.Challenge.rw_hotmoves_k72_floors) rfl rfl (fun w h Y => PySem.W.kIn_of Y) ?F
  case F =>
    intro w mg fa h KX G hmg
    refine' Hm.all_mk KX G hmg ?a_GameError ?a_NoGame ?a_NoBoard ?a_Floors ?a_Book ?pg_Floors ?hd_Floors ?po_Floors ?sa_Floors ?mk_Floors ?kc_Floors ?na_Floors_book ?na_Floors_games ?pg_Book ?hd_Book ?po_Book ?sa_Book ?mk_Book ?kc_Book ?na_Book_depths ?na_Book_moves ?na_Book_numbers ?n_bool ?n_enumerate ?n_int ?n_isinstance ?n_len ?n_list ?n_max ?n_min ?n_range ?n_set ?n_sorted ?n_str ?n_tuple ?v_MOST_ROWS ?v_MOST_SIDE ?a_law_draw ?l_law_draw ?c_law_draw ?k_law_draw ?a_law_deck ?l_law_deck ?c_law_deck ?k_law_deck ?a_Book_need ?i_Book_need ?l_Book_need ?c_Book_need ?k_Book_need ?a_Book_game ?i_Book_game ?l_Book_game ?c_Book_game ?k_Book_game ?a_Book_init ?i_Book_init ?l_Book_init ?c_Book_init ?k_Book_init ?a_Book_many ?i_Book_many ?l_Book_many ?c_Book_many ?k_Book_many ?a_is_text_of ?l_is_text_of ?c_is_text_of ?k_is_text_of ?a_is_floor ?l_is_floor ?c_is_floor ?k_is_floor ?a_Floors_init ?i_Floors_init ?l_Floors_init ?c_Floors_init ?k_Floors_init ?a_Floors_behind ?i_Floors_behind ?l_Floors_behind ?c_Floors_behind ?k_Floors_behind ?a_Floors_game ?i_Floors_game ?l_Floors_game ?c_Floors_game ?k_Floors_game ?a_floor_game ?l_floor_game ?c_floor_game ?k_floor_game ?a_law_floor ?l_law_floor ?c_law_floor ?k_law_floor ?a_law_behind ?l_law_behind ?c_law_behind ?k_law_behind ?a_law_right ?l_law_right ?c_law_right ?k_law_right ?a_Book_depth ?i_Book_depth ?l_Book_depth ?c_Book_depth ?k_Book_depth ?a_Book_lefts ?i_Book_lefts ?l_Book_lefts ?c_Book_lefts ?k_Book_lefts ?a_Book_rights ?i_Book_rights ?l_Book_rights ?c_Book_rights ?k_Book_rights ?a_law ?l_law ?c_law ?k_law
    (case a_GameError => k_is)
    (case a_NoGame => k_is)
    (case a_NoBoard => k_is)
    (case a_Floors => k_is)
    (case a_Book => k_is)
    (case pg_Floors => k_is)
    (case hd_Floors => k_is)
    (case po_Floors => k_is)
    (case sa_Floors => k_is)
    (case mk_Floors => k_is)
    (case kc_Floors => k_is)
    (case na_Floors_book => k_is)
    (case na_Floors_games => k_is)
    (case pg_Book => k_is)
    (case hd_Book => k_is)
    (case po_Book => k_is)
    (case sa_Book => k_is)
    (case mk_Book => k_is)
    (case kc_Book => k_is)
    (case na_Book_depths => k_is)
    (case na_Book_moves => k_is)
    (case na_Book_numbers => k_is)
    (case n_bool => k_is)
    (case n_enumerate => k_is)
    (case n_int => k_is)
    (case n_isinstance => k_is)
    (case n_len => k_is)
    (case n_list => k_is)
    (case n_max => k_is)
    (case n_min => k_is)
    (case n_range => k_is)
    (case n_set => k_is)
    (case n_sorted => k_is)
    (case n_str => k_is)
    (case n_tuple => k_is)
    (case v_MOST_ROWS => k_is)
    (case v_MOST_SIDE => k_is)
    (case a_law_draw => k_is)
    (case l_law_draw => k_is)
    (case c_law_draw => k_is)
    (case k_law_draw => k_is)
    (case a_law_deck => k_is)
    (case l_law_deck => k_is)
    (case c_law_deck => k_is)
    (case k_law_deck => k_is)
    (case a_Book_need => k_is)
    (case i_Book_need => k_is)
    (case l_Book_need => k_is)
    (case c_Book_need => k_is)
    (case k_Book_need => k_is)
    (case a_Book_game => k_is)
    (case i_Book_game => k_is)
    (case l_Book_game => k_is)
    (case c_Book_game => k_is)
    (case k_Book_game => k_is)
    (case a_Book_init => k_is)
    (case i_Book_init => k_is)
    (case l_Book_init => k_is)
    (case c_Book_init => k_is)
    (case k_Book_init => k_is)
    (case a_Book_many => k_is)
    (case i_Book_many => k_is)
    (case l_Book_many => k_is)
    (case c_Book_many => k_is)
    (case k_Book_many => k_is)
    (case a_is_text_of => k_is)
    (case l_is_text_of => k_is)
    (case c_is_text_of => k_is)
    (case k_is_text_of => k_is)
    (case a_is_floor => k_is)
    (case l_is_floor => k_is)
    (case c_is_floor => k_is)
    (case k_is_floor => k_is)
    (case a_Floors_init => k_is)
    (case i_Floors_init => k_is)
    (case l_Floors_init => k_is)
    (case c_Floors_init => k_is)
    (case k_Floors_init => k_is)
    (case a_Floors_behind => k_is)
    (case i_Floors_behind => k_is)
    (case l_Floors_behind => k_is)
    (case c_Floors_behind => k_is)
    (case k_Floors_behind => k_is)
    (case a_Floors_game => k_is)
    (case i_Floors_game => k_is)
    (case l_Floors_game => k_is)
    (case c_Floors_game => k_is)
    (case k_Floors_game => k_is)
    (case a_floor_game => k_is)
    (case l_floor_game => k_is)
    (case c_floor_game => k_is)
    (case k_floor_game => k_is)
    (case a_law_floor => k_is)
    (case l_law_floor => k_is)
    (case c_law_floor => k_is)
    (case k_law_floor => k_is)
    (case a_law_behind => k_is)
    (case l_law_behind => k_is)
    (case c_law_behind => k_is)
    (case k_law_behind => k_is)
    (case a_law_right => k_is)
    (case l_law_right => k_is)
    (case c_law_right => k_is)
    (case k_law_right => k_is)
    (case a_Book_depth => k_is)
    (case i_Book_depth => k_is)
    (case l_Book_depth => k_is)
    (case c_Book_depth => k_is)
    (case k_Book_depth => k_is)
    (case a_Book_lefts => k_is)
    (case i_Book_lefts => k_is)
    (case l_Book_lefts => k_is)
    (case c_Book_lefts => k_is)
    (case k_Book_lefts => k_is)
    (case a_Book_rights => k_is)
    (case i_Book_rights => k_is)
    (case l_Book_rights => k_is)
    (case c_Book_rights => k_is)
    (case k_Book_rights => k_is)
    (case a_law => k_is)
    (case l_law => k_is)
    (case c_law => k_is)
    (case k_law => k_is)

