import PyProof.Rows.All
import Wide.All
import OpenK.AllK
import Wide.FinOn
import HandS.ForMost
import HandS.ForExc
import HandS.Strs
import HandS.SetFor
import HandS.SortInts
import HandS.Deep
import HandS.Style
import HandS.Conv
import HandS.NoneIn
import HandS.IsInst
import HandS.Wide
import HandS.Codes
import HandS.Walk
import HandS.Zip
import HandS.StrMore
import HandS.RevRange
import HandS.Rev
import HandS.TupAny
import HandS.TupLen
import HandS.Steps
import HandS.Remove
import HandS.CallSlots
import HandS.ExcIs
import HandS.ExcValue
import KE.KDictDisplayH
import KE.KeyNested
import HandS.RaiseMore
import HandS.SortRule
import HandS.HotCalls
import HandS.ExcInitHot
import HandS.Text
import PyProof.ListStr
import PySem.Challenge.RW_hotmoves_k73_strips
set_option Elab.async false
set_option linter.all false
set_option maxRecDepth 100000
set_option maxHeartbeats 4000000
/-! F1: set(list of ints); sorted of a set of any size. -/
namespace Hm
open PySem PySem.Spec PyProof.Rows L2

/-- a set as it is made -/
abbrev emptySet (w : World) : Obj := { cls := .type "set", dict := none, data := .set #[] 0 (.fresh 0 0 (!w.params.followText "set-order")) }

section
variable {P : Program} {w : World} {A : Around} {E : Value → Shared → Prop} {s : Shared}

set_option maxHeartbeats 8000000 in
theorem set_of_list {l : Addr} {xs : Array Value} (ks : List Int) {Q : Value → Shared → Prop} (calm : A.handled = none) (isL : s.heap.IsList l xs) (are : IntsAre xs.toList ks) (few : ks.length + 1 < scanBound)
    (fin : ∀ (hp : Heap) (tk n : Nat), SetR w hp s.heap.objs.size (fun j => decide (j ∈ ks)) n → n ≤ ks.length → (∀ b o, s.heap.get? b = some o → hp.get? b = some o) → Q (.ref s.heap.objs.size) { s with heap := hp, toks := tk }) :
    wpAny (model P w) A (call (.type "set") [.ref l]) Q E s := by
  have sz : xs.size = ks.length := (Array.length_toList (xs := xs)).symm.trans (IntsAre.length are)
  have made := F.called_set.made
  have sub := F.called_set.sub
  obtain ⟨c, tl, mro⟩ := F.called_set.mro
  refine wpAny_call (codeAny_of_tree ?_)
  show wpAny _ _ (callAny (.type "set") _) _ _ _
  refine wpAny_pure ⟨Code.quiet_builtin _ (by decide +kernel), codeAny_builtin F.entry_type_call ?_⟩
  rw [Around.under_plain (weight_type_call_type "set" [.ref l] []) rfl]
  have f1 := F.called_set.notType
  have f2 := F.called_set.canCreate
  have f3 := F.typeCall_set_1 (.ref l)
  repeat (any_goals (first | assumption | wp_step))
  refine codeAny_mono (code_set_led1 (.ref l) (E := E) (Q₁ := fun v t => v = .ref s.heap.objs.size ∧ t = { s with heap := s.heap.push (emptySet w) }) ⟨rfl, rfl⟩) fun r t hr => ?_
  cases r with
  | error e => exact hr
  | ok fl =>
    cases fl with
    | next => exact hr.elim
    | brk => exact hr.elim
    | cont => exact hr.elim
    | ret v =>
      obtain ⟨rfl, rfl⟩ := hr
      have at0 : (s.heap.push (emptySet w)).get? s.heap.objs.size = some (emptySet w) := Heap.get?_push_size _ rfl
      have ty0 : Shared.TypeIs { s with heap := s.heap.push (emptySet w) } (.ref s.heap.objs.size) "set" := ⟨_, at0, rfl⟩
      have i1 := F.called_set.init.lookup
      have i2 := F.called_set.init.bind (.ref s.heap.objs.size)
      repeat (any_goals (first | assumption | wp_step))
      refine codeAny_mono (codeAny_call_builtin (R := wants (fun r t => r = .none ∧ ∃ hp tk n, t = { s with heap := hp, toks := tk } ∧ SetR w hp s.heap.objs.size (fun j => decide (j ∈ ks)) n ∧ n ≤ ks.length ∧ (∀ b o, s.heap.get? b = some o → hp.get? b = some o)) E)
        F.called_set.init.plain F.entry_set_init (check_set_init_1 ty0 ?_)) fun r t hr => ?_
      · obtain ⟨⟨oc, od, odt, osl⟩, got, e1, n0, e2⟩ := isL
        simp only at e1 e2
        subst e1 e2
        have got1 : (s.heap.push (emptySet w)).get? l = some { cls := .type "list", dict := od, data := .seq xs n0, slots := osl } := Heap.get?_push_of_some _ got
        have isL1 : (s.heap.push (emptySet w)).IsList l xs := ⟨_, got1, rfl, n0, rfl⟩
        have t1 := F.sub_list_set
        have t2 := F.sub_list_frozenset
        have t3 : (Value.type "list" == Value.type "dict") = false := by decide
        unfold Builtin.«set.__init__» noKeywords Builtin.Frozenset.updateFrom
        generalize eI : pyIter = I
        wp_walk
        subst eI
        refine wpAny_pyIter_list isL1 (wpAny_bind (wpAny_runValue ?_))
        have lt : l < s.heap.objs.size := Heap.lt_size got
        have calm3 : A.in1.in1.in1.handled = none := by simp [calm]
        have sz1 : (s.heap.push (emptySet w)).objs.size = s.heap.objs.size + 1 := Heap.size_push ..
        have neI : l ≠ (s.heap.push (emptySet w)).objs.size := by rw [sz1]; exact Nat.ne_of_lt (Nat.lt_succ_of_lt lt)
        have notS : s.heap.objs.size ∉ [(s.heap.push (emptySet w)).objs.size, l] := by
          rw [sz1]; intro z; simp only [List.mem_cons, List.not_mem_nil, or_false] at z
          rcases z with z | z
          · exact Nat.ne_of_lt (Nat.lt_succ_self _) z
          · exact Nat.ne_of_gt lt z
        have each : ∀ (i : Nat) (v : Value), xs[i]? = some v → ∃ k t, ks[i]? = some k ∧ v = .int k t := fun i v hv => by
          have hi : i < ks.length := by rw [← sz]; exact (Array.getElem?_eq_some_iff.mp hv).1
          obtain ⟨t, e⟩ := PyProof.Rows.IntsAre.int_at are i v (by rw [Array.getElem?_toList]; exact hv)
          exact ⟨ks[i], t, List.getElem?_eq_getElem hi, by rw [e, List.getD_eq_getElem?_getD, List.getElem?_eq_getElem hi]; rfl⟩
        refine set_update_ints ((Walks.list calm3 _ l neI xs).toS) s.heap.objs.size notS ks sz few each (xs.size - 0) 0 _ (by omega) (Nat.zero_le _)
          ⟨⟨_, Heap.get?_push_size _ rfl, rfl, rfl⟩, (isL1.push _)⟩ ?start ?done
        case start =>
          have g : ((s.heap.push (emptySet w)).push { cls := .type "list_iterator", data := .fields #[.ref l, .int 0 0] }).get? s.heap.objs.size = some (emptySet w) := Heap.get?_push_of_some _ at0
          exact ⟨0, Nat.le_refl 0, setR_new_at g⟩
        case done =>
          rintro ⟨hp, gs, dr, tk, os⟩ n mv nle R
          cases (show gs = s.gens from mv.gens)
          cases (show dr = s.drawn from mv.drawn)
          cases (show os = s.os from mv.os)
          show wpAny _ _ _ _ _ _
          refine wpAny_pure ?_
          show wpAny _ _ (ret Value.none) _ _ _
          rw [sz] at nle
          refine wpAny_pure ⟨rfl, hp, tk, n, rfl, R, nle, fun b o e => ?_⟩
          have b0 : b < s.heap.objs.size := Heap.lt_size e
          refine mv.heap b o (fun z => ?_) (Heap.get?_push_of_some _ (Heap.get?_push_of_some _ e))
          simp only [List.mem_cons, List.not_mem_nil, or_false] at z
          rw [sz1] at z
          rcases z with z | z
          · exact Nat.ne_of_lt b0 z
          · exact Nat.ne_of_lt (Nat.lt_succ_of_lt b0) z
      · cases r with
        | error e => exact hr
        | ok fl =>
          cases fl with
          | next => exact hr.elim
          | brk => exact hr.elim
          | cont => exact hr.elim
          | ret v =>
            obtain ⟨rfl, hp, tk, n, rfl, R, nle, keep⟩ := hr
            repeat (any_goals (first | assumption | wp_step))
            exact fin _ _ _ R nle keep

/-- sorted(s) of a set of ints of any size -/
theorem sorted_of_set {a : Addr} {S : Int → Bool} {n : Nat} {Q : Value → Shared → Prop} (R : SetR w s.heap a S n) (calm : A.handled = none)
    (fin : ∀ t p (out : Array Value) (c : Nat) (ns : List Int), (∀ b o, s.heap.get? b = some o → t.heap.get? b = some o) → t.gens = s.gens → t.os = s.os → s.heap.objs.size ≤ p →
      t.heap.get? p = some (seqObj "list" out c) → IntsAre out.toList ns → ns.Pairwise (· < ·) → (∀ k, k ∈ ns ↔ S k = true) → ns.length = n → Q (.ref p) t) :
    wpAny (model P w) A (call (.builtin "sorted") [.ref a]) Q E s := by
  obtain ⟨o, es, ep, t, ho, hex, hd, good, nd, mem, few, fits, num, ris, led⟩ := R
  refine Calls.call_function_entry kind_sorted plain_sorted entry_sorted (args_sorted1 _) ?_
  unfold Builtin.«sorted»
  refine wpAny_bind (m := checkCount "sorted" 1 1 _) (wpAny_pure ?_)
  refine wpAny_bind (collect_set (A := A.in1) calm ⟨o, ho, hex.1, hd⟩ fits few ris led fun s1 vs k1 big g1 o1 pm => ?_)
  have len : vs.length = n := by rw [pm.length_eq, List.length_map, Array.length_toList]; exact num
  have areI : IntsAre vs (vs.map Builtin.Re.reRawOf) := ints_of vs fun v hv => by
    obtain ⟨e, he, q⟩ := List.mem_map.mp (pm.mem_iff.mp hv)
    obtain ⟨k, tk, h1, _⟩ := good e he
    exact ⟨k, tk, q ▸ h1⟩
  have pk : (vs.map Builtin.Re.reRawOf).Perm (es.toList.map keyOf) := by
    have q := pm.map Builtin.Re.reRawOf
    rw [List.map_map] at q
    exact q
  have line : vs.length ≤ sizeLine := by
    rw [len, sizeLine_eq]; have : scanBound = 4096 := rfl; omega
  refine wpAny_bind (wpAny_newList ?_ line)
  have at1 : (s1.heap.push (seqObj "list" vs.toArray 0)).get? s1.heap.objs.size = some (seqObj "list" vs.toArray 0) := Heap.get?_push_size _ rfl
  refine wpAny_bind (wpAny_holding (wpAny_call_entry slot_list_sort ⟨_, at1, rfl⟩ entry_list_sort
    (SrtO.list_sort_ord SrtO.swo_int at1 line (fun h2 => SrtO.ints_sortable areI h2) fun out h1 h2 => ⟨_, rfl, ?_⟩) (args_list_sort _)))
  obtain ⟨j1, j2, j3⟩ := SrtO.ints_out areI h1 h2
  obtain ⟨c, hc⟩ := sortedHeap_at (vs := vs) (out := out.toArray) at1
  have pn : (out.map SrtO.iv).Perm (es.toList.map keyOf) := j2.trans pk
  refine wpAny_pure ⟨_, rfl, fin _ s1.heap.objs.size out.toArray c (out.map SrtO.iv) (fun b u e => ?_) g1 o1 big hc (by simpa using j1) (lt_of_le_nodup _ j3 (pn.nodup_iff.mpr nd)) (fun k => by rw [pn.mem_iff, ← mem k]) ?_⟩
  · have q := k1 b u e
    have lt := Heap.lt_size q
    show (sortedHeap (s1.heap.push (seqObj "list" vs.toArray 0)) s1.heap.objs.size vs out.toArray).get? b = some u
    rw [sortedHeap_old (Nat.ne_of_lt lt) (by rw [size_push']; exact Nat.lt_succ_of_lt lt)]
    exact Heap.get?_push_of_some _ q
  · rw [pn.length_eq, List.length_map, Array.length_toList]; exact num
end

section
variable {X : Cx}
/-- set(xs), xs a list of ints -/
def uSetI (K : PySem.W.Frag) (w : World) : List V → Hp → VK → Prop := fun xs H Q => ∃ (l : Addr) (ns : List Int), xs = [.ref l] ∧ SqL K H l (ns.map V.int) ∧ ns.length ≤ 4000 ∧
  ∀ (a : Addr) (n : Nat), H a = none → n ≤ ns.length → Q (.ref a) (upd H a (SetO w a (fun j => decide (j ∈ ns)) n))
theorem cu_setI (hc : X.calm = true) : CallR X (.type "set") (uSetI X.K X.w) := by
  intro pins s σ H xs us Q I r h
  obtain ⟨l, ns, rfl, hl, few, q⟩ := h
  rw [Vals.ref1 r]
  obtain ⟨its, rv, pl, hz⟩ := I.list hl
  have hs : scanBound = 4096 := rfl
  refine set_of_list ns (I.ok.hd hc) pl.isList (by simpa using rv.ints) (by omega) fun hp tk n R nle keep => ?_
  exact ⟨.ref _, upd H s.heap.objs.size (SetO X.w s.heap.objs.size (fun j => decide (j ∈ ns)) n), I.laid (t' := tk) keep (Nat.le_refl _) (setO_new R), rfl, q _ n (I.hok.fresh (Nat.le_refl _)) nle⟩
/-- sorted(s), s a set of ints -/
def uSortSet (w : World) : List V → Hp → VK → Prop := fun vs H Q => ∃ (a : Addr) (S : Int → Bool) (n : Nat), vs = [V.ref a] ∧ H a = some (SetO w a S n) ∧
  ∀ (ns : List Int) (p : Addr), ns.Pairwise (· < ·) → (∀ k : Int, k ∈ ns ↔ S k = true) → ns.length = n → H p = none → Q (.ref p) (upd H p (.lst (ns.map V.int)))
theorem cu_sortSet (hc : X.calm = true) : CallR X (.builtin "sorted") (uSortSet X.w) := by
  intro pins s σ H vs us Q I r h
  obtain ⟨a, S, n, rfl, ha, q⟩ := h
  have R := setO_get I ha
  have nb : n ≤ 4096 := by
    obtain ⟨_, es, _, _, _, _, _, _, _, _, few, _, num, _⟩ := R
    have hs : scanBound = 4096 := rfl
    omega
  rw [Vals.ref1 r]
  refine sorted_of_set R (I.ok.hd hc) fun s' p out c ns k g o big got areI up mem len => ?_
  have line : (ns.map V.int).length ≤ sizeLine := by rw [List.length_map, len, sizeLine_eq]; omega
  have new : H p = none := I.hok.fresh big
  have J : Inv X pins σ (upd H p (.lst (ns.map V.int))) { s with heap := s'.heap, gens := s'.gens, drawn := s'.drawn, toks := s'.toks } :=
    I.call (ch := []) (Un.laid k big new) (I.hok.laid k big ⟨line, out.toList, c, vals_of_ints areI, got⟩) (by rw [g]; exact I.bare) (fun _ z => nomatch z)
  have same : s' = { s with heap := s'.heap, gens := s'.gens, drawn := s'.drawn, toks := s'.toks } := by
    cases s'; cases s; cases o; rfl
  rw [same]
  exact ⟨.ref p, _, J, rfl, q ns p up mem len new⟩
end
end Hm

/-! F1b: dicts whose keys are nested tuples of ints and texts. -/
namespace Hm
open PySem PySem.Spec PyProof.Rows L2

mutual
/-- the value v is the key k, its tuples tracked -/
def NkV (H : Hp) : NestedKey → V → Prop
  | .none, v => v = .non
  | .num i, v => v = .int i ∨ ∃ b : Bool, v = .bl b ∧ i = (if b = true then 1 else 0)
  | .text x, v => v = .str x
  | .tup ks, v => ∃ a vs, v = .ref a ∧ H a = some (.tup vs) ∧ NkVs H ks vs
def NkVs (H : Hp) : List NestedKey → List V → Prop
  | [], vs => vs = []
  | k :: ks, vs => ∃ v r, vs = v :: r ∧ NkV H k v ∧ NkVs H ks r
end
mutual
theorem NkV.keeps {H H' : Hp} (ht : ∀ b xs, H b = some (.tup xs) → H' b = some (.tup xs)) : ∀ (k : NestedKey) (v : V), NkV H k v → NkV H' k v
  | .none, _, h => by simpa only [NkV] using h
  | .num i, _, h => by simpa only [NkV] using h
  | .text x, _, h => by simpa only [NkV] using h
  | .tup ks, _, h => by
    simp only [NkV] at h ⊢
    obtain ⟨a, vs, e, ha, hs⟩ := h
    exact ⟨a, vs, e, ht _ _ ha, NkVs.keeps ht ks vs hs⟩
theorem NkVs.keeps {H H' : Hp} (ht : ∀ b xs, H b = some (.tup xs) → H' b = some (.tup xs)) : ∀ (ks : List NestedKey) (vs : List V), NkVs H ks vs → NkVs H' ks vs
  | [], _, h => by simpa only [NkVs] using h
  | k :: ks, _, h => by
    simp only [NkVs] at h ⊢
    obtain ⟨v, r, e, h1, h2⟩ := h
    exact ⟨v, r, e, NkV.keeps ht k v h1, NkVs.keeps ht ks r h2⟩
end
section
variable {P : Program} {w : World} {H : Hp} {h : Heap}
mutual
theorem nk_is (ok : HOk P w H h) : ∀ (k : NestedKey) (v : V) (u : Value), NkV H k v → RelV v u → NestedIs h k u
  | .none, _, _, e, r => by simp only [NkV] at e; subst e; cases r; exact .none
  | .num i, _, _, e, r => by
    simp only [NkV] at e
    rcases e with rfl | ⟨b, rfl, e⟩
    · obtain ⟨t, rfl⟩ := r; exact .int i t
    · cases r; exact .bool e
  | .text x, _, _, e, r => by simp only [NkV] at e; subst e; obtain ⟨t, rfl⟩ := r; exact .text x t
  | .tup ks, _, _, e, r => by
    simp only [NkV] at e
    obtain ⟨a, vs, rfl, ha, hs⟩ := e
    cases r
    obtain ⟨_, its, rv, o, h1, h2, n, h3⟩ := (show ObjOk P w H h a (.tup vs) from ok a _ ha)
    exact .tup h1 h2 h3 (by simpa using nks_are ok ks vs its hs rv)
theorem nks_are (ok : HOk P w H h) : ∀ (ks : List NestedKey) (vs : List V) (us : List Value), NkVs H ks vs → Vals vs us → NestedAll h ks us
  | [], _, _, e, r => by simp only [NkVs] at e; subst e; cases r; exact .nil
  | k :: ks, _, _, e, r => by
    simp only [NkVs] at e
    obtain ⟨v, rr, rfl, h1, h2⟩ := e
    cases r with
    | cons r1 r2 => exact .cons (nk_is ok k v _ h1 r1) (nks_are ok ks rr _ h2 r2)
end
end

/-- an entry: the key, its tuple's address, the value -/
abbrev NX := NestedKey × Addr × V
def NRel (p : NX) (q : NestedKey × Addr × Value) : Prop := p.1 = q.1 ∧ p.2.1 = q.2.1 ∧ RelV p.2.2 q.2.2
/-- the dict at a -/
def NdO (P : Program) (w : World) (a : Addr) (xs : List NX) : HO := .ext fun h => (a == sysModules) = false ∧ xs.length ≤ sizeLine ∧ ∃ ys, Paired NRel xs ys ∧
  ∃ o es ep, h.get? a = some o ∧ o.ExactDict ∧ o.data = .dict es ep ∧ es.toList = ys.map (entryOfKey (nestedKind P w)) ∧ (ys.map (·.1)).Nodup
structure NdAt (P : Program) (w : World) (H : Hp) (a : Addr) (xs : List NX) : Prop where
  here : H a = some (NdO P w a xs)
  keys : ∀ x ∈ xs, NkV H x.1 (.ref x.2.1) ∧ x.1.depth ≤ 8
def nval (xs : List NX) (k : NestedKey) : Option V := (xs.find? fun x => decide (x.1 = k)).map (·.2.2)
def nput (xs : List NX) (k : NestedKey) (a : Addr) (v : V) : List NX := if (nval xs k).isSome then xs.map fun x => if x.1 = k then (x.1, x.2.1, v) else x else xs ++ [(k, a, v)]

section
variable {P : Program} {w : World} {H H' : Hp} {h h' : Heap} {a : Addr} {xs : List NX}
theorem ndO_ok {ys : List (NestedKey × Addr × Value)} (z : (a == sysModules) = false) (l : xs.length ≤ sizeLine) (r : Paired NRel xs ys) (d : h.DictOfH (nestedKind P w) a ys) : ObjOk P w H h a (NdO P w a xs) := by
  obtain ⟨o, es, ep, e1, e2, e3, e4, e5, e6⟩ := d
  refine ⟨⟨z, l, ys, r, o, es, ep, e1, e2, e3, e4, e6⟩, ⟨o, e1⟩, fun h1 h2 q k => ?_⟩
  obtain ⟨z, l, ys, r, o, es, ep, f1, f⟩ := q
  exact ⟨z, l, ys, r, o, es, ep, k o f1, f⟩
theorem NdAt.get (ok : HOk P w H h) (N : NdAt P w H a xs) : (a == sysModules) = false ∧ xs.length ≤ sizeLine ∧ ∃ ys, Paired NRel xs ys ∧ h.DictOfH (nestedKind P w) a ys := by
  obtain ⟨⟨z, l, ys, r, o, es, ep, e1, e2, e3, e4, e6⟩, _, _⟩ := ok a _ N.here
  refine ⟨z, l, ys, r, o, es, ep, e1, e2, e3, e4, ?_, e6⟩
  have all : ∀ {l : List NX} {m : List (NestedKey × Addr × Value)}, Paired NRel l m → (∀ x ∈ l, NkV H x.1 (.ref x.2.1) ∧ x.1.depth ≤ 8) → ∀ y ∈ m, (nestedKind P w).is h y.1 y.2.1 := by
    intro l m q
    induction q with
    | nil => intro _ y hy; exact nomatch hy
    | @cons p q ps qs hq t ih =>
      intro hk y hy
      rcases List.mem_cons.mp hy with e | hy
      · subst e
        obtain ⟨k1, k2⟩ := hk p List.mem_cons_self
        rw [← hq.1, ← hq.2.1]
        exact ⟨nk_is ok p.1 _ _ k1 rfl, k2⟩
      · exact ih (fun x hx => hk x (List.mem_cons_of_mem _ hx)) y hy
  exact all r N.keys
theorem NRel.val {ys : List (NestedKey × Addr × Value)} (r : Paired NRel xs ys) (k : NestedKey) : RelO (nval xs k) ((atKey ys k).map (·.2)) := by
  induction r with
  | nil => exact True.intro
  | @cons p q ps qs hq t ih =>
    obtain ⟨h1, _, h3⟩ := hq
    by_cases e : p.1 = k
    · have e' : q.1 = k := h1.symm.trans e
      have b : atKey (q :: qs) k = some q.2 := by simp [atKey, List.find?_cons, e']
      have c : nval (p :: ps) k = some p.2.2 := by simp [nval, List.find?_cons, e]
      rw [c, b]; exact h3
    · have e' : ¬ q.1 = k := fun z => e (h1.trans z)
      have b : atKey (q :: qs) k = atKey qs k := by simp [atKey, List.find?_cons, e']
      have c : nval (p :: ps) k = nval ps k := by simp [nval, List.find?_cons, e]
      rw [c, b]; exact ih
theorem NRel.put {ys : List (NestedKey × Addr × Value)} (r : Paired NRel xs ys) (k : NestedKey) (b : Addr) {v : V} {u : Value} (rv : RelV v u) : Paired NRel (nput xs k b v) (storedH ys k b u) := by
  have e : (nval xs k).isSome = (atKey ys k).isSome := by rw [(NRel.val r k).isSome_eq, Option.isSome_map]
  unfold nput storedH
  rw [e]
  by_cases q : (atKey ys k).isSome = true
  · rw [if_pos q, if_pos q]
    clear e q
    induction r with
    | nil => exact .nil
    | @cons p q ps qs hq t ih =>
      rw [List.map_cons, List.map_cons]
      refine .cons ?_ ih
      obtain ⟨h1, h2, h3⟩ := hq
      unfold putAt
      by_cases e : p.1 = k
      · rw [if_pos e, if_pos (h1.symm.trans e)]; exact ⟨h1, h2, rv⟩
      · rw [if_neg e, if_neg (fun z => e (h1.trans z))]; exact ⟨h1, h2, h3⟩
  · rw [if_neg q, if_neg q]
    exact Paired.snoc r ⟨rfl, rfl, rv⟩
theorem nput_len (xs : List NX) (k : NestedKey) (b : Addr) (v : V) : (nput xs k b v).length ≤ xs.length + 1 := by
  unfold nput; split <;> simp
theorem nput_keys {k : NestedKey} {b : Addr} {v : V} (hk : ∀ x ∈ xs, NkV H x.1 (.ref x.2.1) ∧ x.1.depth ≤ 8) (hb : NkV H k (.ref b)) (d : k.depth ≤ 8) : ∀ x ∈ nput xs k b v, NkV H x.1 (.ref x.2.1) ∧ x.1.depth ≤ 8 := by
  intro x hx
  unfold nput at hx
  split at hx
  · obtain ⟨y, hy, e⟩ := List.mem_map.mp hx
    subst e
    split
    · exact hk y hy
    · exact hk y hy
  · rcases List.mem_append.mp hx with hx | hx
    · exact hk x hx
    · cases List.mem_singleton.mp hx; exact ⟨hb, d⟩
theorem NdAt.keep (N : NdAt P w H a xs) (ha : H' a = H a) (ht : ∀ b ys, H b = some (.tup ys) → H' b = some (.tup ys)) : NdAt P w H' a xs :=
  ⟨ha.trans N.here, fun x hx => ⟨NkV.keeps ht _ _ (N.keys x hx).1, (N.keys x hx).2⟩⟩
end

theorem nk_key {P : Program} {w : World} {H : Hp} {h : Heap} {k : NestedKey} {p : Addr} (ok : HOk P w H h) (kp : NkV H k (.ref p)) (d : k.depth ≤ 8) : (nestedKind P w).is h k p := ⟨nk_is ok k _ _ kp rfl, d⟩
section
variable {X : Cx}
/-- y in d -/
def uNIn (P : Program) (w : World) (neg : Bool) : R2 := fun y x H Q => ∃ a p k xs, x = .ref a ∧ y = .ref p ∧ NdAt P w H a xs ∧ NkV H k (.ref p) ∧ k.depth ≤ 8 ∧ Q (.bl (neg != (nval xs k).isSome)) H
theorem NdAt.isSome {P : Program} {w : World} {k : NestedKey} {xs : List NX} {ys : List (NestedKey × Addr × Value)} (r : Paired NRel xs ys) : (atKey ys k).isSome = (nval xs k).isSome := by
  rw [(NRel.val r k).isSome_eq, Option.isSome_map]
theorem ou_nin (hu : X.A.units + 64 < cLine) : OpR X (compareOp .In) (uNIn X.prog X.w false) := by
  intro pins s σ H y x v u Q I ry rx h
  obtain ⟨a, p, k, xs, rfl, rfl, N, kp, d, q⟩ := h
  cases rx; cases ry
  obtain ⟨z, l, ys, r, D⟩ := N.get I.hok
  refine wpAny_in_heap (show X.A.units + 1 + 8 < cLine by omega) (nk_key I.hok kp d) z D ?_
  rw [NdAt.isSome (P := X.prog) (w := X.w) r]
  exact ⟨.bl _, H, I.tok _, rfl, by simpa using q⟩
theorem ou_nnotin (hu : X.A.units + 64 < cLine) : OpR X (compareOp .NotIn) (uNIn X.prog X.w true) := by
  intro pins s σ H y x v u Q I ry rx h
  obtain ⟨a, p, k, xs, rfl, rfl, N, kp, d, q⟩ := h
  cases rx; cases ry
  obtain ⟨z, l, ys, r, D⟩ := N.get I.hok
  refine wpAny_notIn_heap (show X.A.units + 1 + 8 < cLine by omega) (nk_key I.hok kp d) z D ?_
  rw [NdAt.isSome (P := X.prog) (w := X.w) r]
  exact ⟨.bl _, H, I.tok _, rfl, by simpa using q⟩
/-- d[y] -/
def uNIx (P : Program) (w : World) : R2 := fun x y H Q => ∃ a p k xs v, x = .ref a ∧ y = .ref p ∧ NdAt P w H a xs ∧ NkV H k (.ref p) ∧ k.depth ≤ 8 ∧ nval xs k = some v ∧ Q v H
theorem ix_nd (hu : X.A.units + 64 < cLine) : IxR X (uNIx X.prog X.w) := by
  intro value slice pins s σ H x y v u Q I rx ry h hs
  obtain ⟨a, p, k, xs, z, rfl, rfl, N, kp, d, e, q⟩ := h
  cases rx; cases ry
  obtain ⟨_, l, ys, r, D⟩ := N.get I.hok
  obtain ⟨w', hw, rw'⟩ := RelO.some_of (v := z) (o := (atKey ys k).map (·.2)) (by rw [← e]; exact NRel.val r k)
  obtain ⟨q2, hq2, e2⟩ := Option.map_eq_some_iff.mp hw
  refine tail_any D.typeIs PySem.F.slot_dict_getitem.lookup (wpAny_getItem_heap (show X.A.units + 1 + 8 < cLine by omega) (nk_key I.hok kp d) D hq2 ?_) hs
  rw [e2]
  exact ⟨z, H, I.tok _, rw', q⟩
/-- a dict's item by int, text, or a flat tuple -/
def uDIx : R2 := fun x y H Q => ∃ a v, x = .ref a ∧ DGet H a y (some v) ∧ Q v H
theorem ix_d (hu : X.A.units + 64 < cLine) : IxR X uDIx := by
  intro value slice pins s σ H x y v u Q I rx ry h hs
  obtain ⟨a, z, rfl, g, q⟩ := h
  cases rx
  exact tail_any (dict_typeIs I g) PySem.F.slot_dict_getitem.lookup (d_getItem (by omega) I g ry fun w' s' I' rw' => ⟨z, H, I', rw', q⟩) hs
/-- y in d, keys ints, texts, flat tuples -/
def uDIn (neg : Bool) : R2 := fun y x H Q => ∃ a o, x = .ref a ∧ DGet H a y o ∧ Q (.bl (neg != o.isSome)) H
theorem ou_din (hu : X.A.units + 64 < cLine) : OpR X (compareOp .In) (uDIn false) := by
  intro pins s σ H y x v u Q I ry rx h
  obtain ⟨a, o, rfl, g, q⟩ := h
  cases rx
  exact d_in (by omega) I g ry fun s' I' => ⟨.bl _, H, I', rfl, by simpa using q⟩
theorem ou_dnotin (hu : X.A.units + 64 < cLine) : OpR X (compareOp .NotIn) (uDIn true) := by
  intro pins s σ H y x v u Q I ry rx h
  obtain ⟨a, o, rfl, g, q⟩ := h
  cases rx
  exact d_notIn (by omega) I g ry fun s' I' => ⟨.bl _, H, I', rfl, by simpa using q⟩
/-- d[y] = v -/
def uNSet (P : Program) (w : World) : V → V → V → Hp → (Hp → Prop) → Prop := fun o i v H Q => ∃ a p k xs, o = .ref a ∧ i = .ref p ∧ NdAt P w H a xs ∧ NkV H k (.ref p) ∧ k.depth ≤ 8 ∧ xs.length < sizeLine ∧ Q (upd H a (NdO P w a (nput xs k p v)))
theorem set_nd (hu : X.A.units + 64 < cLine) : PSet X (uNSet X.prog X.w) := by
  intro pins s σ H o i v ov iv u Q I ro ri rv h
  obtain ⟨a, p, k, xs, rfl, rfl, N, kp, d, few, q⟩ := h
  cases ro; cases ri
  obtain ⟨z, l, ys, r, D⟩ := N.get I.hok
  have hl : (nput xs k p v).length ≤ sizeLine := Nat.le_trans (nput_len xs k p v) few
  refine wpAny_setItem_heap (hsz := by rw [← Paired.length r]; exact l) (show X.A.units + 1 + 8 < cLine by omega) (nk_key I.hok kp d) D fun h' D' hs => ?_
  have he : ∃ q, h'.get? a = some q := let ⟨q, _, _, hq, _⟩ := D'; ⟨q, hq⟩
  exact ⟨_, d_write I (by rw [N.here]; exact True.intro) hs he (ndO_ok z hl (NRel.put r k p rv) D'), q⟩
def uDSet : V → V → V → Hp → (Hp → Prop) → Prop := fun o i v H Q => ∃ a H', o = .ref a ∧ DPut H a i v H' ∧ Q H'
theorem set_d (hu : X.A.units + 64 < cLine) : PSet X uDSet := by
  intro pins s σ H o i v ov iv u Q I ro ri rv h
  obtain ⟨a, H', rfl, g, q⟩ := h
  cases ro
  exact d_setItem (by omega) I g ri rv fun s' I' => ⟨H', I', q⟩
theorem PSet.or {X : Cx} {t t' : TSet} (h : PSet X t) (h' : PSet X t') : PSet X (fun o i v H Q => t o i v H Q ∨ t' o i v H Q) := by
  intro pins s σ H o i v ov iv u Q I ro ri rv q
  rcases q with q | q
  · exact h pins s σ H o i v ov iv u Q I ro ri rv q
  · exact h' pins s σ H o i v ov iv u Q I ro ri rv q
/-- {} with nested keys to come -/
theorem nd_empty {P : Program} {w : World} {H : Hp} (h : Heap) (hb : sysModules < h.objs.size) : ObjOk P w H (h.push { cls := .type "dict", data := .dict #[] }) h.objs.size (NdO P w h.objs.size []) :=
  ndO_ok (beq_eq_false_iff_ne.mpr (Ne.symm (Nat.ne_of_lt hb))) (Nat.zero_le _) .nil (Heap.DictOfH.new h)
def uDNew (P : Program) (w : World) : TE := fun _ H Q => (∃ kind : Bool, ∀ p, H p = none → Q (.ref p) (upd H p (if kind = true then .dK [] else NdO P w p []))) ∨ (∀ p, H p = none → Q (.ref p) (upd H p (.dT [])))
theorem pe_dnew {pos : Pos} : PE X (.Dict [] [] pos) (uDNew X.prog X.w) := ⟨fun pins s σ H Q I h => by
  rcases h with ⟨kind, q⟩ | q
  · cases kind with
    | true => exact wpAny_Dict_empty ⟨.ref s.heap.objs.size, _, I.laid (a := s.heap.objs.size) (o := .dK []) (t' := s.toks) (fun _ _ q => Heap.get?_push_of_some _ q) (Nat.le_refl _) (dk_empty s.heap I.big), rfl, q _ (I.hok.fresh (Nat.le_refl _))⟩
    | false => exact wpAny_Dict_empty ⟨.ref s.heap.objs.size, _, I.laid (a := s.heap.objs.size) (o := NdO X.prog X.w s.heap.objs.size []) (t' := s.toks) (fun _ _ q => Heap.get?_push_of_some _ q) (Nat.le_refl _) (nd_empty s.heap I.big), rfl, q _ (I.hok.fresh (Nat.le_refl _))⟩
  · exact pe_dnewT.run pins s σ H Q I q⟩
/-- {k: v} with one nested key -/
def uDisp1 (P : Program) (w : World) (tk tv : TE) : TE := fun σ H Q => ∀ p, H p = none → tk σ (upd H p (NdO P w p [])) fun x H1 => tv σ H1 fun y H2 =>
  ∃ k b, x = .ref b ∧ H2 p = some (NdO P w p []) ∧ NkV H2 k (.ref b) ∧ k.depth ≤ 8 ∧ Q (.ref p) (upd H2 p (NdO P w p [(k, b, y)]))
theorem pe_disp1 {ke ve : Expr} {tk tv : TE} {pos : Pos} (hu : X.A.units + 64 < cLine) (hk : PE X ke tk) (hv : PE X ve tv)
    (shape : (evalEachOpt [some ke] X.env).zip ((evalEach [ve] X.env).map fun v => do let x ← v; standAt pos; pure x) = [(eval ke X.env, (do let x ← eval ve X.env; standAt pos; pure x))].map fun p => (some p.1, p.2) := by rfl) :
    PE X (.Dict [some ke] [ve] pos) (uDisp1 X.prog X.w tk tv) := by
  refine ⟨fun pins s σ H Q I h => ?_⟩
  have hn := I.hok.fresh (Nat.le_refl s.heap.objs.size)
  have I1 := I.laid (a := s.heap.objs.size) (o := NdO X.prog X.w s.heap.objs.size []) (h' := s.heap.push { cls := .type "dict", data := .dict #[] }) (t' := s.toks) (fun _ _ q => Heap.get?_push_of_some _ q) (Nat.le_refl _) (nd_empty s.heap I.big)
  have h1 : PPs X pos [some ke] [ve] [(tk, tv)] := pps_cons hk hv pps_nil
  have trees : pairTrees [some ke] [ve] X.env pos = [(eval ke X.env, (do let x ← eval ve X.env; standAt pos; pure x))] := by rfl
  have run := h1.run pins _ σ _ (fun ps H2 => match ps with
    | [(x, y)] => ∃ k b, x = .ref b ∧ H2 s.heap.objs.size = some (NdO X.prog X.w s.heap.objs.size []) ∧ NkV H2 k (.ref b) ∧ k.depth ≤ 8 ∧ Q (.ref s.heap.objs.size) (upd H2 s.heap.objs.size (NdO X.prog X.w s.heap.objs.size [(k, b, y)]))
    | _ => False) I1 (h _ hn)
  rw [trees] at run
  rw [arm_eval_Dict, shape, dictDisplay_pairs _ (by simp) (by simp)]
  refine wpAny_bind (wpAny_standAt (wpAny_bind (wpAny_subDictH (knd := nestedKind X.prog X.w) (show X.A.units + 8 < cLine by omega) (by simp) (thn run fun vs s2 hh => ?_))))
  obtain ⟨ps, H2, I2, rel, q⟩ := hh
  split at q
  · rename_i x y
    obtain ⟨k, b, rfl, e, kb, d, q⟩ := q
    cases rel with
    | @cons p1 q1 ps qs rr t =>
    cases t
    obtain ⟨u1, u2⟩ := q1
    obtain ⟨r1, r2⟩ := rr
    cases (show u1 = Value.ref b from r1)
    obtain ⟨z, l, ys, rr, D⟩ := NdAt.get I2.hok (xs := []) ⟨e, fun _ hx => nomatch hx⟩
    cases rr
    refine ⟨[(k, b, u2)], ⟨rfl, rfl, nk_key I2.hok kb d, True.intro⟩, D, fun h' tk' D' hs => wpAny_pure ⟨.ref s.heap.objs.size, _, ?_, rfl, q⟩⟩
    have he : ∃ q, h'.get? s.heap.objs.size = some q := let ⟨q, _, _, hq, _⟩ := D'; ⟨q, hq⟩
    exact d_write I2 (by rw [e]; exact True.intro) hs he (ndO_ok (ys := [(k, b, u2)]) z (by rw [sizeLine_eq]; exact (by decide : (1 : Nat) ≤ 16777216)) (.cons ⟨rfl, rfl, r2⟩ .nil) D')
  · exact q.elim
end
/-! sorted(t), t a tuple of ints -/
section
open PyProof.Rows
variable {P : Program} {w : World} {A : Around} {E : Value → Shared → Prop} {s : Shared}
theorem collect_tup {l : Addr} {vs : List Value} {Q : List Value → Shared → Prop} (hl : s.heap.IsTuple l vs.toArray) (hsz : vs.length ≤ sizeLine)
    (h : Q vs { s with heap := (s.heap.push (seqObj "list" #[] 0)).update s.heap.objs.size (Obj.mapSeq (· ++ vs.toArray)) }) :
    wpAny (model P w) A (collect (.ref l)) Q E s := by
  obtain ⟨o, ho, hc, n, hd⟩ := id hl
  unfold collect
  refine wpAny_bind (wpAny_runValue (codeAny_builtin entry_proto_collect' ?_))
  show wpAny _ _ (do again (.builtin "list.__iadd__" ⟨[← newList [], .ref l], []⟩)) _ _ s
  refine wpAny_bind (wpAny_newList (wpAny_pure ⟨Code.quiet_builtin _ (by decide +kernel), codeAny_builtin entry_list_iadd' ?_⟩))
  show wpAny _ _ (Builtin.List.listExtendWith (.ref s.heap.objs.size) (.ref l) (.ref s.heap.objs.size)) _ _ { s with heap := s.heap.push (seqObj "list" #[] 0) }
  unfold Builtin.List.listExtendWith
  have ho' : (s.heap.push (seqObj "list" #[] 0)).get? l = some o := Heap.get?_push_of_some _ ho
  refine wpAny_bind (wpAny_typeOf (T := "tuple") ⟨o, ho', hc⟩ ?_)
  have ht : (Value.type "tuple" == Value.type "tuple") = true := by rfl
  rw [if_pos (by rw [ht]; simp)]
  refine wpAny_bind (listItems_at ho' hd ?_)
  refine wpAny_bind (listItems_at (xs := #[]) (n := 0) (Heap.get?_push_size _ rfl) rfl ?_)
  rw [if_neg (by simp)]
  refine wpAny_bind (listUpdate_at (xs := #[]) (n := 0) (Heap.get?_push_size _ rfl) rfl ?_ (Nat.zero_le _) (by show (#[] ++ vs.toArray).size ≤ sizeLine + 1; simp only [Array.size_append, List.size_toArray, List.length_nil]; omega))
  refine wpAny_pure ?_
  show wpAny (model P w) A (do
      let o ← load s.heap.objs.size
      match o.data with
      | .seq xs _ => pure xs.toList
      | _ => unsupported "internal:collect") Q E { s with heap := (s.heap.push (seqObj "list" #[] 0)).update s.heap.objs.size (Obj.mapSeq (· ++ vs.toArray)) }
  refine wpAny_bind (wpAny_load (get?_update_seq (Heap.get?_push_size _ rfl) _) ?_)
  show wpAny _ _ (pure ((#[] : Array Value) ++ vs.toArray).toList) Q E _
  rw [show ((#[] : Array Value) ++ vs.toArray).toList = vs by simp]
  exact wpAny_pure h
theorem sorted_of_tup {l : Addr} {vs : List Value} {ns : List Int} {Q : Value → Shared → Prop} (hl : s.heap.IsTuple l vs.toArray) (hsz : vs.length ≤ sizeLine) (areI : IntsAre vs ns)
    (fin : ∀ (h' : Heap) (p : Addr) (out : Array Value) (c : Nat) (ns' : List Int), (∀ b o, s.heap.get? b = some o → h'.get? b = some o) → s.heap.objs.size ≤ p → h'.get? p = some (seqObj "list" out c) → IntsAre out.toList ns' → ns'.Perm ns → ns'.Pairwise (· ≤ ·) → Q (.ref p) { s with heap := h' }) :
    wpAny (model P w) A (call (.builtin "sorted") [.ref l]) Q E s := by
  refine Calls.call_function_entry kind_sorted plain_sorted entry_sorted (args_sorted1 _) ?_
  unfold Builtin.«sorted»
  refine wpAny_bind (m := checkCount "sorted" 1 1 _) (wpAny_pure ?_)
  refine wpAny_bind (collect_tup hl hsz ?_)
  have k1 : ∀ b o, s.heap.get? b = some o → ((s.heap.push (seqObj "list" #[] 0)).update s.heap.objs.size (Obj.mapSeq (· ++ vs.toArray))).get? b = some o := fun b o q => by
    rw [Heap.get?_update_ne _ _ _ _ (Nat.ne_of_lt (Heap.lt_size q))]
    exact Heap.get?_push_of_some _ q
  have big : s.heap.objs.size ≤ ((s.heap.push (seqObj "list" #[] 0)).update s.heap.objs.size (Obj.mapSeq (· ++ vs.toArray))).objs.size := by
    rw [Heap.size_update, size_push']; omega
  generalize (s.heap.push (seqObj "list" #[] 0)).update s.heap.objs.size (Obj.mapSeq (· ++ vs.toArray)) = h1 at k1 big ⊢
  refine wpAny_bind (wpAny_newList ?_ hsz)
  have at1 : (h1.push (seqObj "list" vs.toArray 0)).get? h1.objs.size = some (seqObj "list" vs.toArray 0) := Heap.get?_push_size _ rfl
  refine wpAny_bind (wpAny_holding (wpAny_call_entry slot_list_sort ⟨_, at1, rfl⟩ entry_list_sort
    (SrtO.list_sort_ord SrtO.swo_int at1 hsz (fun h2 => SrtO.ints_sortable areI h2) fun out z1 z2 => ⟨_, rfl, ?_⟩) (args_list_sort _)))
  obtain ⟨j1, j2, j3⟩ := SrtO.ints_out areI z1 z2
  obtain ⟨c, hc⟩ := sortedHeap_at (vs := vs) (out := out.toArray) at1
  refine wpAny_pure ⟨_, rfl, fin _ h1.objs.size out.toArray c (out.map SrtO.iv) (fun b u e => ?_) big hc (by simpa using j1) j2 j3⟩
  have q := k1 b u e
  have lt := Heap.lt_size q
  rw [sortedHeap_old (Nat.ne_of_lt lt) (by rw [size_push']; exact Nat.lt_succ_of_lt lt)]
  exact Heap.get?_push_of_some _ q
end
section
variable {X : Cx}
def rSortTup (K : PySem.W.Frag) : List V → Hp → VK → Prop := fun xs H Q => ∃ (l : Addr) (ns : List Int), xs = [.ref l] ∧ SqT K H l (ns.map V.int) ∧
  ∀ (ns' : List Int) (p : Addr), ns'.Perm ns → ns'.Pairwise (· ≤ ·) → H p = none → Q (.ref p) (upd H p (.lst (ns'.map V.int)))
theorem cu_sortTup : CallR X (.builtin "sorted") (rSortTup X.K) := by
  intro pins s σ H vs us Q I r h
  obtain ⟨l, ns, rfl, hq, q⟩ := h
  rw [Vals.ref1 r]
  obtain ⟨its, rv, p, hz⟩ := I.tuple hq
  have areI : IntsAre its ns := rv.ints
  refine sorted_of_tup (show s.heap.IsTuple l its.toArray from p) (by rw [← rv.length]; exact hz) areI fun h' p' out c ns' k big got a1 a2 a3 => ?_
  have line : (ns'.map V.int).length ≤ sizeLine := by rw [List.length_map, a2.length_eq]; rw [List.length_map] at hz; exact hz
  have new : H p' = none := I.hok.fresh big
  exact ⟨.ref p', upd H p' (.lst (ns'.map V.int)), I.laid (t' := s.toks) k big ⟨line, out.toList, c, vals_of_ints a1, got⟩, rfl, q ns' p' a2 a3 new⟩
/-- sorted(d), d a dict whose keys are ints, of any size -/
def uSortDict : List V → Hp → VK → Prop := fun xs H Q => ∃ (a : Addr) (kvs : List (L2.Key × V)) (ks : List Int), xs = [.ref a] ∧ H a = some (.dK kvs) ∧ kvs.map (·.1) = ks.map Sum.inl ∧
  ∀ (ys : List Int) (p : Addr), ys.Perm ks → ys.Pairwise (· ≤ ·) → H p = none → Q (.ref p) (upd H p (.lst (ys.map V.int)))
theorem ints_each' : ∀ {us : List Value} {ks : List Int}, us.length = ks.length → (∀ (j : Nat) (v : Value), us[j]? = some v → ∃ (x : Int) (t : _), ks[j]? = some x ∧ v = .int x t) → IntsAre us ks
  | [], [], _, _ => .nil
  | u :: us, k :: ks, hl, h => by
    obtain ⟨x, t, e1, e2⟩ := h 0 u rfl
    have e1' : k = x := Option.some.inj e1
    subst e1'
    subst e2
    refine .cons _ _ (ints_each' (by simpa using hl) fun j v e => ?_)
    obtain ⟨x, t, a, b⟩ := h (j + 1) v (by simpa using e)
    exact ⟨x, t, by simpa using a, b⟩
  | [], _ :: _, hl, _ => by simp at hl
  | _ :: _, [], hl, _ => by simp at hl
theorem cu_sortDict (hcalm : X.calm = true) : CallR X (.builtin "sorted") uSortDict := by
  intro pins s σ H xs us Q I r q
  obtain ⟨a, kvs, ks, rfl, hd, hks, q⟩ := q
  rw [Vals.ref1 r]
  obtain ⟨z, lo, vs, rel, dd⟩ := dk_rd I.hok (.inl hd)
  obtain ⟨ep, hat⟩ := dd.dictAt
  have hkeys : vs.map (·.1) = ks.map Sum.inl := rel.keys.symm.trans hks
  have hl : vs.length = ks.length := by
    have e := congrArg List.length hkeys
    rw [List.length_map, List.length_map] at e
    exact e
  have h16 : vs.length ≤ sizeLine := by rw [← rel.length]; exact z
  refine Calls.call_function_entry kind_sorted plain_sorted entry_sorted (args_sorted1 _) ?_
  unfold Builtin.«sorted»
  refine wpAny_bind (m := checkCount "sorted" 1 1 _) (wpAny_pure ?_)
  refine wpAny_bind (PySem.W.kdu_collect (A := X.A.in1) (PySem.W.kdl_dict (knd := mixKind X.prog X.w) (kvs := vs) (ep := ep) lo) (I.ok.hd hcalm) hat h16 fun h' tk acc hk hacc => ?_)
  have hal : acc.toList.length = ks.length := by rw [Array.length_toList, hacc.1, hl]
  have areI : IntsAre acc.toList ks := ints_each' hal fun j v e => by
    obtain ⟨k, x, e1, e2⟩ := hacc.2 j v (by rw [← Array.getElem?_toList]; exact e)
    have e3 : (vs.map (·.1))[j]? = some k := by rw [List.getElem?_map, e1]; rfl
    rw [hkeys, List.getElem?_map] at e3
    cases e4 : ks[j]? with
    | none => rw [e4] at e3; cases e3
    | some y =>
      rw [e4] at e3
      have e5 : Sum.inl y = k := Option.some.inj e3
      subst e5
      rcases keyIs_shape (show keyIs (Sum.inl y) v = true from e2) with ⟨i, t, ek, ev⟩ | ⟨z, t, ek, ev⟩
      · cases ek
        exact ⟨y, t, rfl, ev⟩
      · cases ek
  have I1 : Inv X pins σ H { s with heap := h', toks := tk } := I.kept hk
  have hal2 : acc.toList.length ≤ sizeLine := by rw [hal, ← hl]; exact h16
  refine wpAny_bind (wpAny_newList ?_ hal2)
  have at1 : (h'.push (seqObj "list" acc.toList.toArray 0)).get? h'.objs.size = some (seqObj "list" acc.toList.toArray 0) := Heap.get?_push_size _ rfl
  show wpAny _ _ _ _ _ { s with heap := h'.push (seqObj "list" acc.toList.toArray 0), toks := tk }
  refine wpAny_bind (wpAny_holding (wpAny_call_entry slot_list_sort ⟨_, at1, rfl⟩ entry_list_sort
    (SrtO.list_sort_ord SrtO.swo_int (s := { s with heap := h'.push (seqObj "list" acc.toList.toArray 0), toks := tk }) at1 hal2 (fun h2 => SrtO.ints_sortable areI h2) fun out z1 z2 => ⟨_, rfl, ?_⟩) (args_list_sort _)))
  obtain ⟨j1, j2, j3⟩ := SrtO.ints_out areI z1 z2
  obtain ⟨c, hc⟩ := sortedHeap_at (vs := acc.toList) (out := out.toArray) at1
  have hlen : ((out.map SrtO.iv).map V.int).length ≤ sizeLine := by
    rw [List.length_map, j2.length_eq, ← hl]; exact h16
  refine wpAny_pure ⟨_, rfl, .ref h'.objs.size, upd H h'.objs.size (.lst ((out.map SrtO.iv).map V.int)), I1.laid (t' := tk) (fun b u e => ?_) (Nat.le_refl _)
    (show ObjOk X.prog X.w _ _ _ (.lst ((out.map SrtO.iv).map V.int)) from ⟨hlen, out, c, vals_of_ints j1, hc⟩), rfl, q _ _ j2 j3 (I1.hok.fresh (Nat.le_refl _))⟩
  have hb : b < h'.objs.size := Heap.lt_size e
  rw [sortedHeap_old (Nat.ne_of_lt hb) (by rw [size_push']; exact Nat.lt_succ_of_lt hb)]
  exact Heap.get?_push_of_some _ e
end
end Hm

/-! F2: rules by syntax alone (each a choice by values), and their readings. -/
namespace Hm
open PySem PySem.Spec PyProof.Rows L2

/-! ### choices by values -/
def bAdd (K : PySem.W.Frag) : R2 := fun x y H Q => rI0 (fun i j => .int (i + j)) x y H Q ∨ rCat x y H Q ∨
  (∃ i j, x = .str i ∧ y = .str j ∧ i.length + j.length ≤ sizeLine ∧ Q (.str (i ++ j)) H) ∨ rCatA K x y H Q
def bSub : R2 := rI0 fun i j => .int (i - j)
def bMul : R2 := fun x y H Q => rI CMul (fun i j => .int (i * j)) x y H Q ∨ rI CMulW (fun i j => .int (i * j)) x y H Q ∨ rRep x y H Q
def bMod : R2 := rI (fun _ j => 0 < j) fun i j => .int (i % j)
def bDiv : R2 := fun x y H Q => rI CDiv (fun i j => .int (i / j)) x y H Q ∨ rI CDivW (fun i j => .int (i / j)) x y H Q
def bPow : R2 := rI CPow fun i j => .int (i ^ j.toNat)
def bAnd : R2 := rI0 fun i j => .int (Builtin.bitAnd i j)
def bXor : R2 := rI0 fun i j => .int (Builtin.bitXor i j)
def cEq (K : PySem.W.Frag) : R2 := fun x y H Q => rEq x y H Q ∨ rEqD K x y H Q
def cNe (K : PySem.W.Frag) : R2 := fun x y H Q => rNe x y H Q ∨ rNeD K x y H Q
def cLt (K : PySem.W.Frag) : R2 := fun x y H Q => rI0 (fun i j => .bl (decide (i < j))) x y H Q ∨
  (∃ i j, x = .str i ∧ y = .str j ∧ Q (.bl (decide (i.cps.toList < j.cps.toList))) H) ∨ rLtT K x y H Q
def cLe : R2 := rI0 fun i j => .bl (decide (i ≤ j))
def cGt : R2 := rI0 fun i j => .bl (decide (j < i))
def cGe : R2 := rI0 fun i j => .bl (decide (j ≤ i))
def cIs : R2 := fun x y H Q => (y = .non ∧ Q (.bl (decide (x = .non))) H) ∨ rIsB x y H Q
def cIsNot : R2 := fun x y H Q => (y = .non ∧ Q (.bl (!decide (x = .non))) H) ∨ rNotB x y H Q
def cIn (P : Program) (w : World) (K : PySem.W.Frag) : R2 := fun x y H Q => rIn K false x y H Q ∨ rInD K x y H Q ∨ rInS x y H Q ∨ uDIn false x y H Q ∨ uNIn P w false x y H Q
def cNotIn (P : Program) (w : World) (K : PySem.W.Frag) : R2 := fun x y H Q => rIn K true x y H Q ∨ rNotInD K x y H Q ∨ rNotInS x y H Q ∨ uDIn true x y H Q ∨ uNIn P w true x y H Q
def bIx (P : Program) (w : World) (K : PySem.W.Frag) : R2 := fun x y H Q => rIxL K x y H Q ∨ rIxT K x y H Q ∨ rIxS x y H Q ∨ uDIx x y H Q ∨ uNIx P w x y H Q
def bSet (P : Program) (w : World) : TSet := fun o i v H Q => rSetL o i v H Q ∨ uDSet o i v H Q ∨ uNSet P w o i v H Q
def kLen (K : PySem.W.Frag) : List V → Hp → VK → Prop := fun xs H Q => (∃ x n, xs = [x] ∧ LenV K x H n ∧ Q (.int n) H) ∨ (∃ a kvs, xs = [V.ref a] ∧ H a = some (.dK kvs) ∧ Q (.int kvs.length) H)
def kList (K : PySem.W.Frag) : List V → Hp → VK → Prop := fun xs H Q => (∃ p ys, xs = [.ref p] ∧ (SqL K H p ys ∨ SqT K H p ys) ∧ ∀ l, H l = none → Q (.ref l) (upd H l (.lst ys))) ∨ rListD xs H Q
def kTuple (K : PySem.W.Frag) : List V → Hp → VK → Prop := fun xs H Q => ∃ p ys, xs = [.ref p] ∧ ((SqL K H p ys ∧ ∀ l, H l = none → Q (.ref l) (upd H l (.tup ys))) ∨ (SqT K H p ys ∧ Q (.ref p) H))
def kSorted (K : PySem.W.Frag) (w : World) : List V → Hp → VK → Prop := fun xs H Q => rSortedI K xs H Q ∨ uSortSet w xs H Q ∨ rSortTup K xs H Q ∨ uSortDict xs H Q
def kMax (K : PySem.W.Frag) : List V → Hp → VK → Prop := fun xs H Q => (∃ i j, xs = [.int i, .int j] ∧ Q (.int (if j > i then j else i)) H) ∨ rMax K xs H Q
def kMin (K : PySem.W.Frag) : List V → Hp → VK → Prop := fun xs H Q => (∃ i j, xs = [.int i, .int j] ∧ Q (.int (if j < i then j else i)) H) ∨ rMin K xs H Q
def kAbs : List V → Hp → VK → Prop := fun xs H Q => ∃ i, xs = [.int i] ∧ Q (.int (if i < 0 then -i else i)) H
def kInt : List V → Hp → VK → Prop := fun xs H Q => (∃ i, xs = [.int i] ∧ Q (.int i) H) ∨ ∃ k, xs = [.bl k] ∧ Q (.int (if k then 1 else 0)) H
def tTru (K : PySem.W.Frag) (ta : TE) : TT := fun σ H Q => ta σ H fun x H' => ∃ k, TruV K x H' k ∧ Q k H'
def bSl (K : PySem.W.Frag) : V → Option Int → Option Int → Hp → VK → Prop := fun x lo hi H Q => rSlL K x lo hi H Q ∨ rSlA K x lo hi H Q
/-- (a, b) = a tuple or a list of that length -/
def gSeq (K : PySem.W.Frag) (n : Nat) (t : TGs) : TG := fun v σ H Q => gTup K n t v σ H Q ∨ gUnl K n t v σ H Q
def kInsert : V → List V → Hp → VK → Prop := fun x vs H Q => ∃ (l : Addr) (xs : List V) (i : Int) (y : V), x = .ref l ∧ vs = [.int i, y] ∧ H l = some (.lst xs) ∧ xs.length < sizeLine ∧ 0 ≤ i ∧ i < 2 ^ 63 ∧
    Q .non (upd H l (.lst (xs.take i.toNat ++ [y] ++ xs.drop i.toNat)))
def kIndex (K : PySem.W.Frag) : V → List V → Hp → VK → Prop := fun x xs H Q => rIndex K x xs H Q ∨ rIndexD K x xs H Q

def rTupIndex (K : PySem.W.Frag) : V → List V → Hp → VK → Prop := fun x xs H Q => ∃ p, ∃ ys : List Str, ∃ z j, x = .ref p ∧ xs = [.str z] ∧ SqT K H p (ys.map V.str) ∧ ys[j]? = some z ∧ (∀ m, m < j → ys[m]? ≠ some z) ∧ Q (.int (j : Nat)) H

section
variable {X : Cx}
theorem hu64 {k : Nat} {A : Around} (hr : Room k A) : A.units + 64 < cLine := hr.units
theorem hu1 {k : Nat} {A : Around} (hr : Room k A) : A.units + 1 < cLine := by have := hr.un; omega
theorem hu65 {k : Nat} {A : Around} (hr : Room k A) : A.units + 65 < cLine := by have := hr.un; omega
theorem o_add : OpR X (binaryOp .Add) (bAdd X.K) := op_add.or (op_cat.or (op_add_str.or op_catA))
theorem o_sub : OpR X (binaryOp .Sub) bSub := op_sub
theorem o_mul : OpR X (binaryOp .Mult) bMul := op_mul.or (op_mulW.or op_rep)
theorem o_mod : OpR X (binaryOp .Mod) bMod := op_mod
theorem o_div : OpR X (binaryOp .FloorDiv) bDiv := op_fdiv.or op_fdivW
theorem o_pow : OpR X (binaryOp .Pow) bPow := op_pow
theorem o_and : OpR X (binaryOp .BitAnd) bAnd := op_and
theorem o_xor : OpR X (binaryOp .BitXor) bXor := op_xor
theorem o_eq (hu : X.A.units + 64 < cLine) : OpR X (compareOp .Eq) (cEq X.K) := op_eq.or (op_eqD hu)
theorem o_ne (hu : X.A.units + 64 < cLine) : OpR X (compareOp .NotEq) (cNe X.K) := op_ne.or (op_neD hu)
theorem o_lt (hu : X.A.units + 64 < cLine) : OpR X (compareOp .Lt) (cLt X.K) := op_lt.or (op_lt_str.or (op_ltT (by omega)))
theorem o_le : OpR X (compareOp .LtE) cLe := op_le
theorem o_gt : OpR X (compareOp .Gt) cGt := op_gt
theorem o_ge : OpR X (compareOp .GtE) cGe := op_ge
theorem o_is : OpR X (compareOp .Is) cIs := op_isN.or op_isBl
theorem o_isnot : OpR X (compareOp .IsNot) cIsNot := op_notN.or op_notBl
theorem o_in (hu : X.A.units + 65 < cLine) : OpR X (compareOp .In) (cIn X.prog X.w X.K) := op_in_seq.or ((op_inD hu).or (op_inS.or ((ou_din (by omega)).or (ou_nin (by omega)))))
theorem o_notin (hu : X.A.units + 65 < cLine) : OpR X (compareOp .NotIn) (cNotIn X.prog X.w X.K) := op_notIn_seq.or ((op_notInD hu).or (op_notInS.or ((ou_dnotin (by omega)).or (ou_nnotin (by omega)))))
theorem x_ix (hu : X.A.units + 64 < cLine) : IxR X (bIx X.prog X.w X.K) := ix_list.or (ix_tup.or (ix_str.or ((ix_d hu).or (ix_nd hu))))
theorem s_set (hu : X.A.units + 64 < cLine) : PSet X (bSet X.prog X.w) := PSet.or set_list (PSet.or (set_d hu) (set_nd hu))
theorem k_len : CallR X (.builtin "len") (kLen X.K) := call_len.or call_lenD
theorem k_list (hc : X.calm = true) : CallR X (.type "list") (kList X.K) := call_list_of.or (call_list_dK hc)
theorem k_tuple : CallR X (.type "tuple") (kTuple X.K) := call_tuple_of
theorem k_sorted (hc : X.calm = true) : CallR X (.builtin "sorted") (kSorted X.K X.w) := cr_sortedI.or ((cu_sortSet hc).or (cu_sortTup.or (cu_sortDict hc)))
theorem k_set (hc : X.calm = true) : CallR X (.type "set") (uSetI X.K X.w) := cu_setI hc
theorem k_max (hc : X.calm = true) : CallR X (.builtin "max") (kMax X.K) := (call_max2 hc).or (cr_max hc)
theorem k_min (hc : X.calm = true) : CallR X (.builtin "min") (kMin X.K) := (call_min2 hc).or (cr_min hc)
theorem k_abs : CallR X (.builtin "abs") kAbs := call_abs
theorem k_int : CallR X (.type "int") kInt := call_int1
theorem k_isi : CallR X (.builtin "isinstance") (rIsi X.K) := call_isi
theorem p_tru {a : Expr} {ta : TE} (ha : PE X a ta) (he : ∀ whole, isTrue a X.env whole = (do let v ← whole; standAt a.pos; holding [v] (truthy v)) := by intro _; rfl) : PT X a (tTru X.K ta) := pt_truth ha he
theorem s_sl : SlR X (bSl X.K) := sl_list.or sl_tupA
theorem g_seq {es : List Expr} {k : Nat} {t : TGs} {n : Nat} {pos : Pos} (hc : X.calm = true) (h : PGs X es t)
    (hn : (assignEach es X.env).length = n := by rfl) (hst : (assignEach es X.env).findIdx? (·.1) = none := by rfl) : PG X (.Tuple es k pos) (gSeq X.K n t) := by
  refine ⟨fun pins s σ H v u Q I r hw => ?_⟩
  rcases hw with hw | hw
  · exact (pg_tup hc h hn hst).run pins s σ H v u Q I r hw
  · exact (pg_unl hc h hn hst).run pins s σ H v u Q I r hw
/-- what a for walks, by its value -/
def kIter (K : PySem.W.Frag) (x : V) (H : Hp) (R : It → Hp → Prop) : Prop := (∃ a, x = .ref a ∧ (∃ xs, SqL K H a xs) ∧ R (Itl K a) H) ∨ (∃ a, x = .ref a ∧ (∃ xs, SqT K H a xs) ∧ R (Itt K a) H) ∨ ∃ z, x = .str z ∧ R (Its z) H
def iAny (K : PySem.W.Frag) (tl : TE) : TI := fun σ H R => tl σ H fun x H1 => kIter K x H1 R
theorem pi_any {tg l : Expr} {tl : TE} (hl : PE X l tl) : PI X tg l (iAny X.K tl) := by
  refine ⟨fun pins s σ H R I h => thn (hl.run pins s σ H _ I h) fun v s1 ⟨x, H1, I1, r1, q1⟩ => ?_⟩
  have own : ∀ {Q : Hp}, Inv X pins σ Q s1 → ∀ b ∈ [s1.heap.objs.size], FpOk X pins Q b := fun J b hb => by
    cases List.mem_singleton.mp hb
    exact J.fpOk (Nat.le_refl _) (J.hok.fresh (Nat.le_refl _))
  rcases q1 with ⟨a, rfl, ⟨xs, hq⟩, q⟩ | ⟨a, rfl, ⟨xs, hq⟩, q⟩ | ⟨z, rfl, q⟩
  · cases r1
    obtain ⟨its, rv, p, hz⟩ := I1.list hq
    exact wpAny_pyIter_list p.isList ⟨_, [s1.heap.objs.size], _, _, H1, rfl, I1.kept (t' := s1.toks) fun b o e => Heap.get?_push_of_some _ e, turn_list a _, ⟨_, Heap.get?_push_size _ rfl, rfl, rfl⟩, own I1, q⟩
  · cases r1
    obtain ⟨its, rv, p, hz⟩ := I1.tuple hq
    exact wpAny_pyIter_tuple (show s1.heap.IsTuple a its.toArray from p) ⟨_, [s1.heap.objs.size], _, _, H1, rfl, I1.kept (t' := s1.toks) fun b o e => Heap.get?_push_of_some _ e, turn_tuple a _, ⟨_, Heap.get?_push_size _ rfl, rfl, rfl⟩, own I1, q⟩
  · obtain ⟨t, rfl⟩ := r1
    cases ha : z.cps.all (· < 128)
    · exact wpAny_pyIter_wide ha (pi_one (tk := s1.toks) I1 _ (turn_str _ z t "str_iterator" (.inr rfl)) ⟨_, Heap.get?_push_size _ rfl, rfl, rfl⟩ q)
    · exact wpAny_pyIter_ascii ha (pi_one (tk := s1.toks) I1 _ (turn_str _ z t "str_ascii_iterator" (.inl rfl)) ⟨_, Heap.get?_push_size _ rfl, rfl, rfl⟩ q)
theorem mt_kindex (hu : X.A.units + 65 < cLine) : MtR X "list.index" (kIndex X.K) := mt_index.or (mt_indexD hu)
end
/-! ### defs, methods, classes of the text, by their promises -/
structure Cal (P : Program) (w : World) (K : PySem.W.Frag) (mg : Str → Option Value) (base : Heap) (CX : CXT) (k : Nat) (x : Str) (sp : Sp) : Prop where
  ex : ∃ (f : Addr) (fd : FuncData) (ps : List Str), FnOk P w K mg base CX k f fd ps sp ∧ mg x = some (.ref f) ∧ PySem.W.keepIn K (.ref f) = true ∧ Binds K fd ps []
structure Met (P : Program) (w : World) (K : PySem.W.Frag) (mg : Str → Option Value) (base : Heap) (CX : CXT) (k : Nat) (C : Addr) (m : Str) (sp : Sp) : Prop where
  ex : ∃ (f : Addr) (fd : FuncData) (ps : List Str), Cls K C ∧ Meth K C m f ∧ FnOk P w K mg base CX k f fd ps sp ∧ Binds K fd ps []
structure Mak (P : Program) (w : World) (K : PySem.W.Frag) (mg : Str → Option Value) (base : Heap) (CX : CXT) (k : Nat) (x : Str) (C : Addr) (sp : Sp) : Prop where
  ex : ∃ (f : Addr) (fd : FuncData) (ps : List Str), Mk K C f ∧ FnOk P w K mg base CX k f fd ps sp ∧ mg x = some (.ref C) ∧ Binds K fd ps []
section
variable {X : Cx} {CX : CXT} {E : XK} {k j : Nat} {C : Addr} {x m : Str} {sp : Sp} {p pos apos : Pos} {e o : Expr} {es : List Expr} {ta : TE} {t : TA}
theorem e_call (c : Cal X.prog X.w X.K X.mg X.base CX k x sp) (hr : Room j X.A) (hk : k ≤ j) (hx : Passes CX X E) (hg : Gl X x) (ha : PA X (e :: es) t)
    (hdb : (x == ("__debug__" : Str)) = false := by decide) (he : starEach (e :: es) X.env = (false, eval e X.env) :: starEach es X.env := by rfl) (hpl : (backTo pos (starEach es X.env)).any (·.1) = false := by rfl) :
    PE X (.Call (.Name x p) (e :: es) [] pos) (tCall sp [] E t) := by
  obtain ⟨f, fd, ps, F, hm, kp, b⟩ := c.ex
  exact pe_call F (hr.mono hk) hg hm kp b .nil hx ha hdb he hpl
theorem e_call0 (c : Cal X.prog X.w X.K X.mg X.base CX k x sp) (hr : Room j X.A) (hk : k ≤ j) (hx : Passes CX X E) (hg : Gl X x) (hdb : (x == ("__debug__" : Str)) = false := by decide) :
    PE X (.Call (.Name x p) [] [] pos) (tCall sp [] E tNil) := by
  obtain ⟨f, fd, ps, F, hm, kp, b⟩ := c.ex
  exact pe_call0 F (hr.mono hk) hg hm kp b .nil hx hdb
theorem e_make (c : Mak X.prog X.w X.K X.mg X.base CX k x C sp) (hr : Room j X.A) (hk : k + 1 ≤ j) (hx : Passes CX X E) (hg : Gl X x) (ha : PA X (e :: es) t)
    (hdb : (x == ("__debug__" : Str)) = false := by decide) (he : starEach (e :: es) X.env = (false, eval e X.env) :: starEach es X.env := by rfl) (hpl : (backTo pos (starEach es X.env)).any (·.1) = false := by rfl) :
    PE X (.Call (.Name x p) (e :: es) [] pos) (tMake C sp [] E t) := by
  obtain ⟨f, fd, ps, M, F, hm, b⟩ := c.ex
  exact pe_make M F (hr.mono hk) hg hm b .nil hx ha hdb he hpl
theorem e_make0 (c : Mak X.prog X.w X.K X.mg X.base CX k x C sp) (hr : Room j X.A) (hk : k + 1 ≤ j) (hx : Passes CX X E) (hg : Gl X x) (hdb : (x == ("__debug__" : Str)) = false := by decide) :
    PE X (.Call (.Name x p) [] [] pos) (tMake C sp [] E tNil) := by
  obtain ⟨f, fd, ps, M, F, hm, b⟩ := c.ex
  exact pe_make0 M F (hr.mono hk) hg hm b .nil hx hdb
theorem e_meth {pl : Sem Bool} (c : Met X.prog X.w X.K X.mg X.base CX k C m sp) (hr : Room j X.A) (hk : k ≤ j) (hx : Passes CX X E) (he : PE X o ta) (ha : PA X (e :: es) t)
    (h1 : starEach (e :: es) X.env = (false, eval e X.env) :: starEach es X.env := by rfl) (h2 : (backTo pos (starEach es X.env)).any (·.1) = false := by rfl)
    (h3 : eval (.Call (.Attribute o m apos) (e :: es) [] pos) X.env = (do let ov ← eval o X.env; standAt apos.atName; let (f, first) ← holding [ov] (getMethod ov m pl)
                                                                          callWith pos f first (backTo pos (starEach (e :: es) X.env)) (backToKw pos (keywordEach [] X.env))) := by rfl) :
    PE X (.Call (.Attribute o m apos) (e :: es) [] pos) (tMeth C m sp [] E ta t) := by
  obtain ⟨f, fd, ps, hc, hm, F, b⟩ := c.ex
  exact pe_meth (pl := pl) he hc hm F (hr.mono hk) b .nil hx ha h1 h2 h3
theorem e_meth0 {pl : Sem Bool} (c : Met X.prog X.w X.K X.mg X.base CX k C m sp) (hr : Room j X.A) (hk : k ≤ j) (hx : Passes CX X E) (he : PE X o ta)
    (h3 : eval (.Call (.Attribute o m apos) [] [] pos) X.env = (do let ov ← eval o X.env; standAt apos.atName; let (f, first) ← holding [ov] (getMethod ov m pl)
                                                                   callWith pos f first (backTo pos (starEach [] X.env)) (backToKw pos (keywordEach [] X.env))) := by rfl) :
    PE X (.Call (.Attribute o m apos) [] [] pos) (tMeth C m sp [] E ta tNil) := by
  obtain ⟨f, fd, ps, hc, hm, F, b⟩ := c.ex
  exact pe_meth0 (pl := pl) he hc hm F (hr.mono hk) b .nil hx h3
end
end Hm

/-! F3: readings, one lemma a head. -/
namespace Hm
open PySem L2

/-! ### heaps -/
/-- what stood stands, but for the cells of M -/
def Keep (M : Addr → Prop) (H H' : Hp) : Prop := ∀ a o, ¬ M a → H a = some o → H' a = some o
abbrev Nil : Addr → Prop := fun _ => False
theorem Keep.refl {M : Addr → Prop} {H : Hp} : Keep M H H := fun _ _ _ h => h
theorem Keep.trans {M : Addr → Prop} {H H1 H2 : Hp} (a : Keep M H H1) (b : Keep M H1 H2) : Keep M H H2 := fun c o n h => b c o n (a c o n h)
theorem Keep.mono {M N : Addr → Prop} {H H' : Hp} (k : Keep M H H') (s : ∀ a, M a → N a) : Keep N H H' := fun a o n h => k a o (fun z => n (s a z)) h
theorem Keep.weak {M : Addr → Prop} {H H' : Hp} (k : Keep Nil H H') : Keep M H H' := k.mono fun _ z => z.elim
theorem Keep.new {M : Addr → Prop} {H H' : Hp} {p : Addr} {o : HO} (k : Keep M H H') (hp : H' p = none) : Keep M H (upd H' p o) := fun a u n h => by
  rw [upd_ne (ne_of_none (k a u n h) hp)]; exact k a u n h
theorem Keep.alloc {M : Addr → Prop} {H : Hp} {p : Addr} {o : HO} (hp : H p = none) : Keep M H (upd H p o) := Keep.refl.new hp
theorem Keep.set {M : Addr → Prop} {H H' : Hp} {p : Addr} {o : HO} (k : Keep M H H') (hp : M p) : Keep M H (upd H' p o) := fun a u n h => by
  rw [upd_ne (fun z => n (by rw [z]; exact hp))]; exact k a u n h
/-- a cell that was new at the start may be forgotten -/
theorem Keep.hide {M : Addr → Prop} {H H' : Hp} {l : Addr} (k : Keep (fun a => M a ∨ a = l) H H') (hl : H l = none) : Keep M H H' := fun a o n h =>
  k a o (fun z => z.elim n fun e => by rw [e, hl] at h; cases h) h
theorem Keep.setN {M : Addr → Prop} {H H' : Hp} {p : Addr} {o : HO} (k : Keep M H H') (hp : H p = none) : Keep M H (upd H' p o) := fun a u n h => by
  rw [upd_ne (fun z => by rw [z, hp] at h; cases h)]; exact k a u n h
theorem Keep.get {M : Addr → Prop} {H H' : Hp} {a : Addr} {o : HO} (k : Keep M H H') (n : ¬ M a) (h : H a = some o) : H' a = some o := k a o n h
theorem is_upd {H : Hp} {p a : Addr} {o : HO} {v : Option HO} (e : upd H p o a = v) : upd H p o a = v := e
theorem upd_at {H : Hp} {p : Addr} {o o' : HO} (e : o = o') : upd H p o p = some o' := by rw [upd_same, e]
theorem get_new {H : Hp} {a p : Addr} {o u : HO} (hp : H p = none) (h : H a = some o) : upd H p u a = some o := by rw [upd_ne (ne_of_none h hp)]; exact h
theorem get_set {H : Hp} {a p : Addr} {o u : HO} (n : a ≠ p) (h : H a = some o) : upd H p u a = some o := by rw [upd_ne n]; exact h
theorem get_setK {H : Hp} {a p : Addr} {o u u0 : HO} (hp : H p = some u0) (h : H a = some o) (d : o ≠ u0) : upd H p u a = some o := get_set (ne_of h hp d) h
theorem ne_old {H : Hp} {a p : Addr} {o : HO} (hp : H p = none) (h : H a = some o) : a ≠ p := ne_of_none h hp
theorem ne_new {H : Hp} {a p : Addr} {o : HO} (hp : H p = none) (h : H a = some o) : p ≠ a := (ne_of_none h hp).symm
theorem none_of_upd {H : Hp} {a p : Addr} {o : HO} (h : upd H p o a = none) : H a = none := by
  unfold upd at h; split at h
  · cases h
  · exact h
theorem none_ne {H : Hp} {a p : Addr} {o : HO} (h : upd H p o a = none) : a ≠ p := fun z => by rw [z, upd_same] at h; cases h
theorem none_ne' {H : Hp} {a p : Addr} {o : HO} (h : upd H p o a = none) : p ≠ a := (none_ne h).symm

theorem seq_keep {K : PySem.W.Frag} {H H' : Hp} {a : Addr} {xs : List V} (k : Keep Nil H H') (h : SqL K H a xs) : SqL K H' a xs := Same.seq (fun b o e => k b o (fun z => z) e) h
theorem seq_new {K : PySem.W.Frag} {H : Hp} {a p : Addr} {o : HO} {xs : List V} (hp : H p = none) (h : SqL K H a xs) : SqL K (upd H p o) a xs := seq_keep (Keep.alloc hp) h
theorem keep_none {H H' : Hp} {p : Addr} (k : Keep Nil H H') (h : H' p = none) : H p = none := by
  cases e : H p with
  | none => rfl
  | some o => rw [k p o (fun z => z) e] at h; cases h
section
variable {P : Program} {w : World} {K : PySem.W.Frag} {σ : St} {H : Hp} {Q : VK} {D : Ends} {C : Addr} {E : XK} {sp : Sp} {f m : Str}
variable {t u tb : TS} {te ta td tv : TE} {tt : TT} {tr : TA} {g : TG} {i j : Nat} {v x y : V} {r : R2}

/-! ### constants of the text -/
theorem gint {mg : Str → Option Value} {x : Str} {i : Int} (h : ∃ t, mg x = some (.int i t)) : ∃ u, mg x = some u ∧ RelV (.int i) u := by
  obtain ⟨t, e⟩ := h
  exact ⟨_, e, t, rfl⟩
theorem gstr {mg : Str → Option Value} {x z : Str} (h : ∃ t, mg x = some (.str z t)) : ∃ u, mg x = some u ∧ RelV (.str z) u := by
  obtain ⟨t, e⟩ := h
  exact ⟨_, e, t, rfl⟩
/-! ### statements -/
theorem absQ {S : Hp → Prop} {v : V} (h : S H) (k : ∀ HT, S HT → Q v HT) : Q v H := k H h
theorem absS {S : Hp → Prop} (h : S H) (k : ∀ HT, S HT → t D σ HT) : t D σ H := k H h

theorem absT {S : Hp → Prop} {R : Bool → Hp → Prop} (h : S H) (k : ∀ HT, S HT → tt σ HT R) : tt σ H R := k H h
theorem absE {S : Hp → Prop} (h : S H) (k : ∀ HT, S HT → te σ HT Q) : te σ H Q := k H h
theorem r_seq (h : t { D with nx := u D } σ H) : tSeq t u D σ H := h
theorem r_nx {n b c : L2.St → Hp → Prop} {rt : VK} (h : n σ H) : (Ends.mk n rt b c).nx σ H := h
theorem r_rt {n b c : L2.St → Hp → Prop} {rt : VK} (h : rt v H) : (Ends.mk n rt b c).rt v H := h
theorem r_bk {n b c : L2.St → Hp → Prop} {rt : VK} (h : b σ H) : (Ends.mk n rt b c).bk σ H := h
theorem r_ct {n b c : L2.St → Hp → Prop} {rt : VK} (h : c σ H) : (Ends.mk n rt b c).ct σ H := h
theorem r_next (h : D.nx σ H) : tNext D σ H := h
theorem r_asg (h : te σ H fun x H1 => g x σ H1 D.nx) : tAsg te g D σ H := h
theorem r_gname {Q : St → Hp → Prop} (h : Q (σ.set i (some v)) H) : gName i v σ H Q := h
theorem r_drop (h : te σ H fun _ H1 => D.nx σ H1) : tDrop te D σ H := h
theorem r_ret (h : te σ H D.rt) : tRet te D σ H := h
theorem r_if (h : tt σ H fun b H1 => if b = true then t D σ H1 else u D σ H1) : tIfS tt t u D σ H := h
theorem r_brk (h : D.bk σ H) : tBreak D σ H := h
theorem r_cont (h : D.ct σ H) : tCont D σ H := h
theorem r_par {tas : TA} (h : tas σ H fun vs H1 => ∃ v w, vs = [v, w] ∧ D.nx ((σ.set i (some v)).set j (some w)) H1) : tPar i j tas D σ H := h
theorem r_par2 {v w : V} {R : V → V → Prop} (h : R v w) : ∃ v' w', [v, w] = [v', w'] ∧ R v' w' := ⟨v, w, rfl, h⟩
/-! ### tests -/
def kB (x : V) (R : Bool → Prop) : Prop := ∃ k, x = .bl k ∧ R k
theorem r_test {R : Bool → Hp → Prop} (h : te σ H fun x H' => kB x fun k => R k H') : tTest te σ H R := h
theorem r_kB {b : Bool} {R : Bool → Prop} (h : R b) : kB (.bl b) R := ⟨b, rfl, h⟩
theorem r_and {t1 t2 : TT} {R : Bool → Hp → Prop} (h : t1 σ H fun c H1 => if c = true then t2 σ H1 R else R false H1) : tAnd t1 t2 σ H R := h
theorem r_or {t1 t2 : TT} {R : Bool → Hp → Prop} (h : t1 σ H fun c H1 => if c = true then R true H1 else t2 σ H1 R) : tOr t1 t2 σ H R := h
theorem r_not {t1 : TT} {R : Bool → Hp → Prop} (h : t1 σ H fun c H1 => R (!c) H1) : tNot t1 σ H R := h
theorem r_tru {R : Bool → Hp → Prop} (h : te σ H fun x H' => ∃ k, TruV K x H' k ∧ R k H') : tTru K te σ H R := h
theorem r_tru_bl {b : Bool} {R : Bool → Prop} (h : R b) : ∃ k, TruV K (.bl b) H k ∧ R k := ⟨b, rfl, h⟩
theorem r_ite_tt {A B : Prop} (h : A) : if true = true then A else B := by rw [if_pos rfl]; exact h
theorem r_ite_ff {A B : Prop} (h : B) : if false = true then A else B := by rw [if_neg Bool.false_ne_true]; exact h
theorem r_ite {p A B : Prop} [Decidable p] (h1 : p → A) (h2 : ¬ p → B) : if decide p = true then A else B := by
  by_cases h : p
  · rw [if_pos (decide_eq_true h)]; exact h1 h
  · rw [if_neg (by simp [h])]; exact h2 h
theorem r_iteT' {p A B : Prop} [Decidable p] (c : p) (h : A) : if decide p = true then A else B := by rw [if_pos (decide_eq_true c)]; exact h
theorem r_iteF' {p A B : Prop} [Decidable p] (c : ¬ p) (h : B) : if decide p = true then A else B := by rw [if_neg (by simp [c])]; exact h
theorem r_iteNT' {p A B : Prop} [Decidable p] (c : ¬ p) (h : A) : if (!decide p) = true then A else B := by rw [if_pos (by simp [c])]; exact h
theorem r_iteNF' {p A B : Prop} [Decidable p] (c : p) (h : B) : if (!decide p) = true then A else B := by rw [if_neg (by simp [c])]; exact h
theorem r_ite_nt {A B : Prop} (h : B) : if (!true) = true then A else B := by rw [if_neg (by simp)]; exact h
theorem r_ite_nf {A B : Prop} (h : A) : if (!false) = true then A else B := by rw [if_pos (by simp)]; exact h
theorem r_iteN {p A B : Prop} [Decidable p] (h1 : ¬ p → A) (h2 : p → B) : if (!decide p) = true then A else B := by
  by_cases h : p
  · rw [if_neg (by simp [h])]; exact h2 h
  · rw [if_pos (by simp [h])]; exact h1 h
theorem r_iteB {b : Bool} {A B : Prop} (h1 : b = true → A) (h2 : b = false → B) : if b = true then A else B := by
  cases b
  · exact r_ite_ff (h2 rfl)
  · exact r_ite_tt (h1 rfl)
theorem r_iteNB {b : Bool} {A B : Prop} (h1 : b = false → A) (h2 : b = true → B) : if (!b) = true then A else B := by
  cases b
  · exact r_ite_tt (h1 rfl)
  · exact r_ite_ff (h2 rfl)
theorem r_ite_if {b : Bool} {A B : Prop} (hb : b = true) (h : A) : if b = true then A else B := by rw [if_pos hb]; exact h
theorem r_ite_else {b : Bool} {A B : Prop} (hb : b = false) (h : B) : if b = true then A else B := by rw [hb, if_neg Bool.false_ne_true]; exact h
/-! ### values -/
theorem r_var (h : σ[i]? = some (some v)) (k : Q v H) : tVar i σ H Q := ⟨v, h, k⟩
theorem r_c (k : Q v H) : tC v σ H Q := k
theorem r_op (k : ta σ H fun x H1 => te σ H1 fun y H2 => r x y H2 Q) : tOp r ta te σ H Q := k
theorem r_un {q : V → Hp → VK → Prop} (k : ta σ H fun x H1 => q x H1 Q) : tUn q ta σ H Q := k
theorem r_rU {gI : Int → V} {z : Int} (k : Q (gI z) H) : rU gI (.int z) H Q := ⟨z, rfl, k⟩
theorem r_nil {R : List V → Hp → Prop} (k : R [] H) : tNil σ H R := k
theorem r_cons {R : List V → Hp → Prop} (k : te σ H fun x H1 => tr σ H1 fun xs H2 => R (x :: xs) H2) : tCons te tr σ H R := k
theorem r_cb {q : List V → Hp → VK → Prop} (k : tr σ H fun vs H1 => q vs H1 Q) : tCB q tr σ H Q := k
theorem r_call (k : tr σ H fun vs H1 => sp vs H1 Q E) : tCall sp [] E tr σ H Q := by
  have e : (fun vs H1 => sp (vs ++ []) H1 Q E) = fun vs H1 => sp vs H1 Q E := by funext vs H1; rw [List.append_nil]
  show tr σ H fun vs H1 => sp (vs ++ []) H1 Q E
  rw [e]; exact k
def kMeth (C : Addr) (m : Str) (sp : Sp) (E : XK) (tr : TA) (σ : St) (x : V) (H : Hp) (Q : VK) : Prop := ∃ a dx fs, x = .ref a ∧ H a = some (.ins C dx fs) ∧ fs.lookup m = none ∧ tr σ H fun vs H2 => sp (x :: vs) H2 Q E
theorem r_meth (k : ta σ H fun x H1 => kMeth C m sp E tr σ x H1 Q) : tMeth C m sp [] E ta tr σ H Q := by
  have e : ∀ x, (fun vs H1 => sp (x :: (vs ++ [])) H1 Q E) = fun vs H1 => sp (x :: vs) H1 Q E := fun x => by funext vs H1; rw [List.append_nil]
  show ta σ H fun x H1 => ∃ a dx fs, x = .ref a ∧ H1 a = some (.ins C dx fs) ∧ fs.lookup m = none ∧ tr σ H1 fun vs H2 => sp (x :: (vs ++ [])) H2 Q E
  simp only [e]; exact k
theorem r_kmeth {a dx : Addr} {fs : List (Str × V)} (h : H a = some (.ins C dx fs)) (l : fs.lookup m = none) (k : tr σ H fun vs H2 => sp (.ref a :: vs) H2 Q E) : kMeth C m sp E tr σ (.ref a) H Q := ⟨a, dx, fs, rfl, h, l, k⟩
theorem r_make (k : tr σ H fun vs H1 => ∀ x dx, H1 x = none → H1 dx = none → dx ≠ x → sp (.ref x :: vs) (upd (upd H1 dx (.own x)) x (.ins C dx [])) (fun v H2 => v = .non ∧ Q (.ref x) H2) E) : tMake C sp [] E tr σ H Q := by
  have e : ∀ (x : Addr) (S : VK), (fun vs H1 => sp (.ref x :: (vs ++ [])) H1 S E) = fun vs H1 => sp (.ref x :: vs) H1 S E := fun x S => by funext vs H1; rw [List.append_nil]
  show tr σ H fun vs H1 => ∀ x dx, H1 x = none → H1 dx = none → dx ≠ x → sp (.ref x :: (vs ++ [])) (upd (upd H1 dx (.own x)) x (.ins C dx [])) (fun v H2 => v = .non ∧ Q (.ref x) H2) E
  simp only [List.append_nil]; exact k
def kFld (K : PySem.W.Frag) (f : Str) (x : V) (H : Hp) (Q : VK) : Prop := ∃ a C dx fs v, x = .ref a ∧ H a = some (.ins C dx fs) ∧ Cls K C ∧ NoAttr K C f ∧ fs.lookup f = some v ∧ Q v H
theorem r_fld (k : ta σ H fun x H1 => kFld K f x H1 Q) : tFld K ta f σ H Q := k
theorem r_kfld {a dx : Addr} {fs : List (Str × V)} (h : H a = some (.ins C dx fs)) (c : Cls K C) (n : NoAttr K C f) (l : fs.lookup f = some v) (k : Q v H) : kFld K f (.ref a) H Q := ⟨a, C, dx, fs, v, rfl, h, c, n, l, k⟩
def kSFld (K : PySem.W.Frag) (f : Str) (x y : V) (H : Hp) (R : Hp → Prop) : Prop := ∃ a C dx fs, x = .ref a ∧ H a = some (.ins C dx fs) ∧ Cls K C ∧ NoAttr K C f ∧ fs.length < 1000 ∧ R (upd H a (.ins C dx (putF f y fs)))
theorem r_sfld (k : tv σ H fun y H1 => ta σ H1 fun x H2 => kSFld K f x y H2 fun H3 => D.nx σ H3) : sFld K ta tv f D σ H := k
theorem r_ksfld {a dx : Addr} {fs : List (Str × V)} {R : Hp → Prop} (h : H a = some (.ins C dx fs)) (c : Cls K C) (n : NoAttr K C f) (l : fs.length < 1000) (k : R (upd H a (.ins C dx (putF f y fs)))) : kSFld K f (.ref a) y H R := ⟨a, C, dx, fs, rfl, h, c, n, l, k⟩
def kTup (xs : List V) (H : Hp) (Q : VK) : Prop := xs.length ≤ sizeLine ∧ ∀ p, H p = none → Q (.ref p) (upd H p (.tup xs))
def kLst (xs : List V) (H : Hp) (Q : VK) : Prop := xs.length ≤ sizeLine ∧ ∀ p, H p = none → Q (.ref p) (upd H p (.lst xs))
theorem r_tup (k : tr σ H fun xs H1 => kTup xs H1 Q) : tTup tr σ H Q := k
theorem r_lst (k : tr σ H fun xs H1 => kLst xs H1 Q) : tLst tr σ H Q := k
theorem few {n : Nat} (h : n ≤ 100) : n ≤ sizeLine := by rw [sizeLine_eq]; omega
theorem few1 {n : Nat} (h : n ≤ 100000) : n < sizeLine := by rw [sizeLine_eq]; omega
theorem few2 {n : Nat} (h : n ≤ 100000) : n ≤ sizeLine := by rw [sizeLine_eq]; omega
theorem r_ktup {xs : List V} (l : xs.length ≤ 100) (k : ∀ p, H p = none → Q (.ref p) (upd H p (.tup xs))) : kTup xs H Q := ⟨few l, k⟩
theorem r_klst {xs : List V} (l : xs.length ≤ 100) (k : ∀ p, H p = none → Q (.ref p) (upd H p (.lst xs))) : kLst xs H Q := ⟨few l, k⟩
theorem r_sl {q : V → Option Int → Option Int → Hp → VK → Prop} {tl th : TO} (k : te σ H fun x H1 => tl σ H1 fun l H2 => th σ H2 fun u H3 => q x l u H3 Q) : tSl q te tl th σ H Q := k
theorem r_nopart {R : Option Int → Hp → Prop} (k : R none H) : tNoPart σ H R := k
def kI (x : V) (R : Int → Prop) : Prop := ∃ i, x = .int i ∧ R i
theorem r_part {R : Option Int → Hp → Prop} (k : te σ H fun x H1 => kI x fun i => R (some i) H1) : tPart te σ H R := k
theorem r_kI {z : Int} {R : Int → Prop} (h : R z) : kI (.int z) R := ⟨z, rfl, h⟩
def kBM (K : PySem.W.Frag) (T : String) (q : V → List V → Hp → VK → Prop) (tr : TA) (σ : St) (x : V) (H : Hp) (Q : VK) : Prop := tyV K T x H ∧ tr σ H fun xs H2 => q x xs H2 Q
theorem r_bm {T : String} {q : V → List V → Hp → VK → Prop} (k : ta σ H fun x H1 => kBM K T q tr σ x H1 Q) : tBM K T q ta tr σ H Q := k
theorem r_bm0 {T : String} {q : V → List V → Hp → VK → Prop} (k : ta σ H fun x H1 => kBM K T q tNil σ x H1 Q) : tBM0 K T q ta σ H Q := k
theorem r_kbm_l {q : V → List V → Hp → VK → Prop} {l : Addr} {xs : List V} (h : H l = some (.lst xs)) (k : tr σ H fun xs H2 => q (.ref l) xs H2 Q) : kBM K "list" q tr σ (.ref l) H Q := ⟨.inl ⟨rfl, xs, SqL.of h⟩, k⟩
theorem r_revL {l : Addr} {xs : List V} (k : te σ H fun x H1 => x = .ref l ∧ H1 l = some (.lst xs) ∧ ∀ p, H1 p = none → Q (.ref p) (upd H1 p (.lst xs.reverse))) (mono : ∀ S S' : VK, (∀ x H, S x H → S' x H) → te σ H S → te σ H S') : tRevL K te σ H Q :=
  mono _ _ (fun x H1 h => ⟨l, xs, h.1, SqL.of h.2.1, h.2.2⟩) k
def kRev (K : PySem.W.Frag) (x : V) (H : Hp) (Q : VK) : Prop := ∃ a xs, x = .ref a ∧ SqL K H a xs ∧ ∀ p, H p = none → Q (.ref p) (upd H p (.lst xs.reverse))
theorem r_rev (k : te σ H fun x H1 => kRev K x H1 Q) : tRevL K te σ H Q := k
theorem r_krev {l : Addr} {xs : List V} (h : H l = some (.lst xs)) (k : ∀ p, H p = none → Q (.ref p) (upd H p (.lst xs.reverse))) : kRev K (.ref l) H Q := ⟨l, xs, rfl, SqL.of h, k⟩
def kNotV (x : V) (R : Bool → Prop) : Prop := kB x R
theorem r_notV (k : ta σ H fun x H1 => kB x fun b => Q (.bl (!b)) H1) : tNotV ta σ H Q := k
theorem r_andV (k : ta σ H fun x H1 => kB x fun b => if b = true then te σ H1 Q else Q (.bl false) H1) : tAndV ta te σ H Q := k
theorem r_orV (k : ta σ H fun x H1 => kB x fun b => if b = true then Q (.bl true) H1 else te σ H1 Q) : tOrV ta te σ H Q := k
theorem r_chain {r' : R2} {tc : TE} (k : ta σ H fun x H1 => te σ H1 fun y H2 => r x y H2 fun z H3 => kB z fun b => if b = true then tc σ H3 fun w' H4 => r' y w' H4 Q else Q (.bl false) H3) : tChain r r' ta te tc σ H Q := k
theorem r_gsub {tsv : TSet} {R : St → Hp → Prop} (k : ta σ H fun o H1 => te σ H1 fun i H2 => tsv o i v H2 fun H3 => R σ H3) : gSub ta te tsv v σ H R := k
/-! ### operators by values -/
variable {a b : Int} {l l' p q : Addr} {xs zs : List V}
theorem v_add (k : Q (.int (a + b)) H) : bAdd K (.int a) (.int b) H Q := .inl ⟨a, b, rfl, rfl, k⟩
theorem v_addL (h1 : H l = some (.lst xs)) (h2 : H l' = some (.lst zs)) (n : xs.length + zs.length ≤ sizeLine) (k : ∀ p, H p = none → Q (.ref p) (upd H p (.lst (xs ++ zs)))) : bAdd K (.ref l) (.ref l') H Q := .inr (.inl ⟨l, l', xs, zs, rfl, rfl, h1, h2, n, k⟩)
theorem v_addS {s z : Str} (n : s.length + z.length ≤ sizeLine) (k : Q (.str (s ++ z)) H) : bAdd K (.str s) (.str z) H Q := .inr (.inr (.inl ⟨s, z, rfl, rfl, n, k⟩))
theorem v_addT (h1 : H l = some (.tup xs)) (h2 : H l' = some (.tup zs)) (n : xs.length + zs.length ≤ sizeLine) (k : ∀ p H', H' p = some (.tup (xs ++ zs)) → Keep Nil H H' → Q (.ref p) H') : bAdd K (.ref l) (.ref l') H Q := by
  refine .inr (.inr (.inr ⟨l, l', xs, zs, rfl, rfl, SqT.of h1, SqT.of h2, n, fun e => ?_, fun _ e => ?_, fun _ _ p hp => k p _ upd_same (Keep.alloc hp)⟩))
  · subst e; exact k l' H (by simpa using h2) Keep.refl
  · subst e; exact k l H (by simpa using h1) Keep.refl
theorem v_sub (k : Q (.int (a - b)) H) : bSub (.int a) (.int b) H Q := ⟨a, b, rfl, rfl, k⟩
theorem v_mul (n : -(2 ^ 64) < a ∧ a < 2 ^ 64) (k : Q (.int (a * b)) H) : bMul (.int a) (.int b) H Q := .inl ⟨a, b, rfl, rfl, .inl n, k⟩
theorem v_mulR (n : -(2 ^ 64) < b ∧ b < 2 ^ 64) (k : Q (.int (a * b)) H) : bMul (.int a) (.int b) H Q := .inl ⟨a, b, rfl, rfl, .inr n, k⟩
theorem v_mulW (n : CMulW a b) (k : Q (.int (a * b)) H) : bMul (.int a) (.int b) H Q := .inr (.inl ⟨a, b, rfl, rfl, n, k⟩)
theorem v_mulL (h : H l = some (.lst xs)) (n : -(2 ^ 63) ≤ a ∧ a < 2 ^ 63 ∧ xs.length * a.toNat ≤ sizeLine) (k : ∀ p, H p = none → Q (.ref p) (upd H p (.lst (List.replicate a.toNat xs).flatten))) : bMul (.ref l) (.int a) H Q :=
  .inr (.inr ⟨l, a, xs, rfl, rfl, h, n.1, n.2.1, n.2.2, k⟩)
theorem v_mod (n : 0 < b) (k : Q (.int (a % b)) H) : bMod (.int a) (.int b) H Q := ⟨a, b, rfl, rfl, n, k⟩
theorem v_div (n : 0 < b ∧ b < 1073741824) (k : Q (.int (a / b)) H) : bDiv (.int a) (.int b) H Q := .inl ⟨a, b, rfl, rfl, n, k⟩
theorem v_divW (n : CDivW a b) (k : Q (.int (a / b)) H) : bDiv (.int a) (.int b) H Q := .inr ⟨a, b, rfl, rfl, n, k⟩
theorem v_pow (n : CPow a b) (k : Q (.int (a ^ b.toNat)) H) : bPow (.int a) (.int b) H Q := ⟨a, b, rfl, rfl, n, k⟩
theorem v_eq (k : Q (.bl (decide (a = b))) H) : cEq K (.int a) (.int b) H Q := .inl ⟨rfl, by
  have e : decide (V.int a = V.int b) = decide (a = b) := by
    by_cases h : a = b
    · subst h; simp
    · rw [decide_eq_false h, decide_eq_false (fun z => h (V.int.inj z))]
  rw [e]; exact k⟩
theorem v_eqS {s z : Str} (k : Q (.bl (decide (s = z))) H) : cEq K (.str s) (.str z) H Q := .inl ⟨rfl, by
  have e : decide (V.str s = V.str z) = decide (s = z) := by
    by_cases h : s = z
    · subst h; simp
    · rw [decide_eq_false h, decide_eq_false (fun z => h (V.str.inj z))]
  rw [e]; exact k⟩
theorem v_ne (k : Q (.bl (!decide (a = b))) H) : cNe K (.int a) (.int b) H Q := .inl ⟨rfl, by
  have e : decide (V.int a = V.int b) = decide (a = b) := by
    by_cases h : a = b
    · subst h; simp
    · rw [decide_eq_false h, decide_eq_false (fun z => h (V.int.inj z))]
  rw [e]; exact k⟩
theorem v_neS {s z : Str} (k : Q (.bl (!decide (s = z))) H) : cNe K (.str s) (.str z) H Q := .inl ⟨rfl, by
  have e : decide (V.str s = V.str z) = decide (s = z) := by
    by_cases h : s = z
    · subst h; simp
    · rw [decide_eq_false h, decide_eq_false (fun z => h (V.str.inj z))]
  rw [e]; exact k⟩
theorem v_eqD {d e : PyData} (h1 : Dp K H x d) (h2 : Dp K H y e) (s1 : SeqAt.shaped d = true) (s2 : SeqAt.shaped e = true) (k : Q (.bl (PyData.eqv d e)) H) : cEq K x y H Q := .inr ⟨d, e, h1, h2, s1, s2, k⟩
theorem v_neD {d e : PyData} (h1 : Dp K H x d) (h2 : Dp K H y e) (s1 : SeqAt.shaped d = true) (s2 : SeqAt.shaped e = true) (k : Q (.bl (!PyData.eqv d e)) H) : cNe K x y H Q := .inr ⟨d, e, h1, h2, s1, s2, k⟩
theorem v_lt (k : Q (.bl (decide (a < b))) H) : cLt K (.int a) (.int b) H Q := .inl ⟨a, b, rfl, rfl, k⟩
theorem v_le (k : Q (.bl (decide (a ≤ b))) H) : cLe (.int a) (.int b) H Q := ⟨a, b, rfl, rfl, k⟩
theorem v_gt (k : Q (.bl (decide (b < a))) H) : cGt (.int a) (.int b) H Q := ⟨a, b, rfl, rfl, k⟩
theorem v_ge (k : Q (.bl (decide (b ≤ a))) H) : cGe (.int a) (.int b) H Q := ⟨a, b, rfl, rfl, k⟩
theorem v_isN (k : Q (.bl (decide (x = .non))) H) : cIs x .non H Q := .inl ⟨rfl, k⟩
theorem v_notN (k : Q (.bl (!decide (x = .non))) H) : cIsNot x .non H Q := .inl ⟨rfl, k⟩
theorem v_isB {c d : Bool} (k : Q (.bl (decide (c = d))) H) : cIs (.bl c) (.bl d) H Q := .inr ⟨c, d, rfl, rfl, k⟩
theorem v_notB {c d : Bool} (k : Q (.bl (!decide (c = d))) H) : cIsNot (.bl c) (.bl d) H Q := .inr ⟨c, d, rfl, rfl, k⟩
theorem v_ixL (h : H l = some (.lst xs)) (n : atI xs a = some v) (k : Q v H) : bIx P w K (.ref l) (.int a) H Q := .inl ⟨l, xs, a, v, rfl, rfl, SqL.of h, n, k⟩
theorem v_ixK (h : SqL K H l xs) (n : atI xs a = some v) (k : Q v H) : bIx P w K (.ref l) (.int a) H Q := .inl ⟨l, xs, a, v, rfl, rfl, h, n, k⟩
theorem v_ixT (h : H l = some (.tup xs)) (n : atI xs a = some v) (k : Q v H) : bIx P w K (.ref l) (.int a) H Q := .inr (.inl ⟨l, xs, a, v, rfl, rfl, SqT.of h, n, k⟩)
theorem v_setL {R : Hp → Prop} {jj : Nat} (h : H l = some (.lst xs)) (n : ixN xs.length a = some jj) (k : R (upd H l (.lst (xs.set jj v)))) : bSet P w (.ref l) (.int a) v H R := .inl ⟨l, xs, a, jj, rfl, rfl, h, n, k⟩
theorem v_lenL (h : H l = some (.lst xs)) (k : Q (.int xs.length) H) : kLen K [.ref l] H Q := .inl ⟨.ref l, xs.length, rfl, .inl ⟨xs, SqL.of h, rfl⟩, k⟩
theorem v_lenK (h : SqL K H l xs) (k : Q (.int xs.length) H) : kLen K [.ref l] H Q := .inl ⟨.ref l, xs.length, rfl, .inl ⟨xs, h, rfl⟩, k⟩
theorem v_lenT (h : H l = some (.tup xs)) (k : Q (.int xs.length) H) : kLen K [.ref l] H Q := .inl ⟨.ref l, xs.length, rfl, .inr ⟨xs, SqT.of h, rfl⟩, k⟩
theorem v_int (k : Q (.int a) H) : kInt [.int a] H Q := .inl ⟨a, rfl, k⟩
theorem v_intB {c : Bool} (k : Q (.int (if c then 1 else 0)) H) : kInt [.bl c] H Q := .inr ⟨c, rfl, k⟩
theorem v_max (k : Q (.int (if b > a then b else a)) H) : kMax K [.int a, .int b] H Q := .inl ⟨a, b, rfl, k⟩
theorem v_min (k : Q (.int (if b < a then b else a)) H) : kMin K [.int a, .int b] H Q := .inl ⟨a, b, rfl, k⟩
theorem v_maxL {ns : List Int} (h : H l = some (.lst (ns.map V.int))) (n : 0 < ns.length) (k : ∀ m, m ∈ ns → (∀ y, y ∈ ns → y ≤ m) → Q (.int m) H) : kMax K [.ref l] H Q := .inr ⟨l, ns, rfl, SqL.of h, n, k⟩
theorem v_abs (k : Q (.int (if a < 0 then -a else a)) H) : kAbs [.int a] H Q := ⟨a, rfl, k⟩
theorem v_listL (h : H l = some (.lst xs)) (k : ∀ p, H p = none → Q (.ref p) (upd H p (.lst xs))) : kList K [.ref l] H Q := .inl ⟨l, xs, rfl, .inl (SqL.of h), k⟩
theorem v_listT (h : H l = some (.tup xs)) (k : ∀ p, H p = none → Q (.ref p) (upd H p (.lst xs))) : kList K [.ref l] H Q := .inl ⟨l, xs, rfl, .inr (SqT.of h), k⟩
theorem v_tupleL (h : H l = some (.lst xs)) (k : ∀ p, H p = none → Q (.ref p) (upd H p (.tup xs))) : kTuple K [.ref l] H Q := ⟨l, xs, rfl, .inl ⟨SqL.of h, k⟩⟩
theorem v_sortedL {ns : List Int} (h : H l = some (.lst (ns.map V.int))) (k : ∀ (ns' : List Int) (p : Addr), ns'.Perm ns → ns'.Pairwise (· ≤ ·) → H p = none → Q (.ref p) (upd H p (.lst (ns'.map V.int)))) : kSorted K w [.ref l] H Q := .inl ⟨l, ns, rfl, SqL.of h, k⟩
theorem v_sortedS {S : Int → Bool} {n : Nat} (h : H l = some (SetO w l S n)) (k : ∀ (ns : List Int) (p : Addr), ns.Pairwise (· < ·) → (∀ z : Int, z ∈ ns ↔ S z = true) → ns.length = n → H p = none → Q (.ref p) (upd H p (.lst (ns.map V.int)))) : kSorted K w [.ref l] H Q := .inr (.inl ⟨l, S, n, rfl, h, k⟩)
theorem v_sortedT {ns : List Int} (h : H l = some (.tup (ns.map V.int))) (k : ∀ (ns' : List Int) (p : Addr), ns'.Perm ns → ns'.Pairwise (· ≤ ·) → H p = none → Q (.ref p) (upd H p (.lst (ns'.map V.int)))) : kSorted K w [.ref l] H Q := .inr (.inr (.inl ⟨l, ns, rfl, SqT.of h, k⟩))
theorem v_sortedD {kvs : List (L2.Key × V)} {ks : List Int} (h : H l = some (.dK kvs)) (e : kvs.map (·.1) = ks.map Sum.inl) (k : ∀ (ns' : List Int) (p : Addr), ns'.Perm ks → ns'.Pairwise (· ≤ ·) → H p = none → Q (.ref p) (upd H p (.lst (ns'.map V.int)))) : kSorted K w [.ref l] H Q := .inr (.inr (.inr ⟨l, kvs, ks, rfl, h, e, k⟩))
theorem v_set {ns : List Int} (h : H l = some (.lst (ns.map V.int))) (n : ns.length ≤ 4000) (k : ∀ (p : Addr) (c : Nat), H p = none → c ≤ ns.length → Q (.ref p) (upd H p (SetO w p (fun j => decide (j ∈ ns)) c))) : uSetI K w [.ref l] H Q := ⟨l, ns, rfl, SqL.of h, n, k⟩
theorem v_append (h : H l = some (.lst xs)) (n : xs.length < sizeLine) (k : Q .non (upd H l (.lst (xs ++ [v])))) : rAppend (.ref l) [v] H Q := ⟨l, xs, v, rfl, rfl, h, n, k⟩
theorem v_clear (h : H l = some (.lst xs)) (k : Q .non (upd H l (.lst []))) : rClear (.ref l) [] H Q := ⟨l, xs, rfl, rfl, h, k⟩
theorem v_insert (h : H l = some (.lst xs)) (n : xs.length < sizeLine) (z : 0 ≤ a ∧ a < 2 ^ 63) (k : Q .non (upd H l (.lst (xs.take a.toNat ++ [v] ++ xs.drop a.toNat)))) : kInsert (.ref l) [.int a, v] H Q := ⟨l, xs, a, v, rfl, rfl, h, n, z.1, z.2, k⟩
theorem v_slL {lo hi : Option Int} (h : H l = some (.lst xs)) (k : ∀ p, H p = none → Q (.ref p) (upd H p (.lst (cutV xs lo hi)))) : bSl K (.ref l) lo hi H Q := .inl ⟨l, xs, rfl, SqL.of h, k⟩
theorem v_isi {t u : Value} {c : V} {b : Bool} (c1 : ClsV c u) (c2 : TyX K H x t) (e : PySem.W.kitOne K t u = some b) (k : Q (.bl b) H) : rIsi K [x, c] H Q := ⟨x, c, t, u, b, rfl, c1, c2, e, k⟩
theorem v_isiI {n : String} {b : Bool} (e : kitB "int" n = some b) (k : Q (.bl b) H) : rIsi K [.int a, .ty n] H Q := v_isi (.ty n) (.base (.int _)) (kit_ty e) k
theorem v_isiB {n : String} {c b : Bool} (e : kitB "bool" n = some b) (k : Q (.bl b) H) : rIsi K [.bl c, .ty n] H Q := v_isi (.ty n) (.base (.bl _)) (kit_ty e) k
theorem v_isiL {n : String} {b : Bool} (h : H l = some (.lst xs)) (e : kitB "list" n = some b) (k : Q (.bl b) H) : rIsi K [.ref l, .ty n] H Q := v_isi (.ty n) (.base (.lst h)) (kit_ty e) k
theorem v_isiT {n : String} {b : Bool} (h : H l = some (.tup xs)) (e : kitB "tuple" n = some b) (k : Q (.bl b) H) : rIsi K [.ref l, .ty n] H Q := v_isi (.ty n) (.base (.tup h)) (kit_ty e) k
theorem v_isiS {n : String} {s : Str} {b : Bool} (e : kitB "str" n = some b) (k : Q (.bl b) H) : rIsi K [.str s, .ty n] H Q := v_isi (.ty n) (.base (.str _)) (kit_ty e) k
theorem kit_int_int : kitB "int" "int" = some true := by decide +kernel
theorem kit_int_bool : kitB "int" "bool" = some false := by decide +kernel
theorem kit_int_list : kitB "int" "list" = some false := by decide +kernel
theorem kit_int_tuple : kitB "int" "tuple" = some false := by decide +kernel
theorem kit_int_str : kitB "int" "str" = some false := by decide +kernel
theorem kit_bool_int : kitB "bool" "int" = some true := by decide +kernel
theorem kit_bool_bool : kitB "bool" "bool" = some true := by decide +kernel
theorem kit_bool_list : kitB "bool" "list" = some false := by decide +kernel
theorem kit_bool_tuple : kitB "bool" "tuple" = some false := by decide +kernel
theorem kit_bool_str : kitB "bool" "str" = some false := by decide +kernel
theorem kit_list_int : kitB "list" "int" = some false := by decide +kernel
theorem kit_list_bool : kitB "list" "bool" = some false := by decide +kernel
theorem kit_list_list : kitB "list" "list" = some true := by decide +kernel
theorem kit_list_tuple : kitB "list" "tuple" = some false := by decide +kernel
theorem kit_list_str : kitB "list" "str" = some false := by decide +kernel
theorem kit_tuple_int : kitB "tuple" "int" = some false := by decide +kernel
theorem kit_tuple_bool : kitB "tuple" "bool" = some false := by decide +kernel
theorem kit_tuple_list : kitB "tuple" "list" = some false := by decide +kernel
theorem kit_tuple_tuple : kitB "tuple" "tuple" = some true := by decide +kernel
theorem kit_tuple_str : kitB "tuple" "str" = some false := by decide +kernel
theorem kit_str_int : kitB "str" "int" = some false := by decide +kernel
theorem kit_str_bool : kitB "str" "bool" = some false := by decide +kernel
theorem kit_str_list : kitB "str" "list" = some false := by decide +kernel
theorem kit_str_tuple : kitB "str" "tuple" = some false := by decide +kernel
theorem kit_str_str : kitB "str" "str" = some true := by decide +kernel
theorem kit_NoneType_int : kitB "NoneType" "int" = some false := by decide +kernel
theorem kit_NoneType_bool : kitB "NoneType" "bool" = some false := by decide +kernel
theorem kit_NoneType_list : kitB "NoneType" "list" = some false := by decide +kernel
theorem kit_NoneType_tuple : kitB "NoneType" "tuple" = some false := by decide +kernel
theorem kit_NoneType_str : kitB "NoneType" "str" = some false := by decide +kernel
theorem kit_dict_int : kitB "dict" "int" = some false := by decide +kernel
theorem kit_dict_bool : kitB "dict" "bool" = some false := by decide +kernel
theorem kit_dict_list : kitB "dict" "list" = some false := by decide +kernel
theorem kit_dict_tuple : kitB "dict" "tuple" = some false := by decide +kernel
theorem kit_dict_str : kitB "dict" "str" = some false := by decide +kernel
/-! ### loops -/
def kFor (J : It) (g : TG) (tb : TS) (D : Ends) (σ : St) (H : Hp) : Prop := ∃ W : Nat → Nat → St → Hp → Prop, (∃ m, W 0 m σ H) ∧ ∀ i m σ H, W i m σ H →
  (J.stop i H ∧ D.nx σ H) ∨ (J.go i H ∧ ∃ N : St → Hp → Prop, (∀ σ' H', N σ' H' → ∃ m', m' < m ∧ W (i + 1) m' σ' H') ∧ ∀ x H', J.yld i H x H' → g x σ H' fun σ2 H2 => tb { D with nx := N, ct := N, bk := D.nx } σ2 H2)
theorem r_for {wi : TI} (k : wi σ H fun J H1 => kFor J g tb D σ H1) : tFor wi g tb D σ H := k
def kRng1 (vs : List V) (H : Hp) (R : It → Hp → Prop) : Prop := ∃ j : Int, vs = [.int j] ∧ -(2 ^ 62) ≤ j ∧ j < 2 ^ 62 ∧ R (Itr 0 j.toNat) H
theorem r_rng1 {R : It → Hp → Prop} (k : tr σ H fun vs H1 => kRng1 vs H1 R) : iRng1 tr σ H R := k
theorem r_krng1 {R : It → Hp → Prop} (n : -(2 ^ 62) ≤ a ∧ a < 2 ^ 62) (k : R (Itr 0 a.toNat) H) : kRng1 [.int a] H R := ⟨a, rfl, n.1, n.2, k⟩
theorem r_iany {R : It → Hp → Prop} (k : te σ H fun x H1 => kIter K x H1 R) : iAny K te σ H R := k
theorem r_kiterL {R : It → Hp → Prop} (h : H l = some (.lst xs)) (k : R (Itl K l) H) : kIter K (.ref l) H R := .inl ⟨l, rfl, ⟨xs, SqL.of h⟩, k⟩
theorem r_kiterT {R : It → Hp → Prop} (h : H l = some (.tup xs)) (k : R (Itt K l) H) : kIter K (.ref l) H R := .inr (.inl ⟨l, rfl, ⟨xs, SqT.of h⟩, k⟩)
def kLc (J : It) (g : TG) (tt : TT) (te : TE) (vs : List Nat) (σ : St) (H1 : Hp) (Q : VK) : Prop := ∀ D, H1 D = none → ∃ W : Nat → Nat → Hp → Prop, (∃ m, W 0 m (upd H1 D (.lst []))) ∧ ∀ i m H, W i m H →
  (J.stop i H ∧ Q (.ref D) H) ∨ (J.go i H ∧ ∃ Nx : Hp → Prop, (∀ H', Nx H' → ∃ m', m' < m ∧ W (i + 1) m' H') ∧ ∀ x H', J.yld i H x H' → g x (wipe σ vs) H' fun σ2 H2 => wipe σ2 vs = wipe σ vs ∧ tt σ2 H2 fun b H3 =>
    if b = true then te σ2 H3 fun y H4 => ∃ acc, H4 D = some (.lst acc) ∧ acc.length < sizeLine ∧ Nx (upd H4 D (.lst (acc ++ [y]))) else Nx H3)
theorem r_lc {wi : TI} {vs : List Nat} (k : wi σ H fun J H1 => kLc J g tt te vs σ H1 Q) : tLc wi g tt te vs σ H Q := k
def kRg (x : V) (H : Hp) (R : Int → Int → Hp → Prop) : Prop := ∃ n, x = .int n ∧ R 0 n H
theorem r_lstRg1 (k : te σ H fun x H1 => kRg x H1 fun c d H2 => RgOk c d ∧ ∀ q, H2 q = none → Q (.ref q) (upd H2 q (.lst (rgV c d)))) : tLstRg (tRg1 te) σ H Q := k
theorem r_krg {R : Int → Int → Hp → Prop} (k : R 0 a H) : kRg (.int a) H R := ⟨a, rfl, k⟩
theorem absF {J : It} {S : Hp → Prop} (h : S H) (k : ∀ HT, S HT → kFor J g tb D σ HT) : kFor J g tb D σ H := k H h
theorem r_yes {R : Bool → Hp → Prop} (k : R true H) : tYes σ H R := k
theorem r_seqT {n : Nat} {ts : TGs} {R : St → Hp → Prop} (h : H l = some (.tup xs)) (e : xs.length = n) (k : ts xs σ H R) : gSeq K n ts (.ref l) σ H R := .inl ⟨l, xs, rfl, SqT.of h, e, k⟩
theorem r_seqL {n : Nat} {ts : TGs} {R : St → Hp → Prop} (h : H l = some (.lst xs)) (e : xs.length = n) (k : ts xs σ H R) : gSeq K n ts (.ref l) σ H R := .inr ⟨l, xs, rfl, SqL.of h, e, k⟩
theorem r_gcons {ts : TGs} {R : St → Hp → Prop} (k : g v σ H fun σ' H' => ts xs σ' H' R) : gCons g ts (v :: xs) σ H R := ⟨v, xs, rfl, k⟩
theorem r_gnil {R : St → Hp → Prop} (k : R σ H) : gNil [] σ H R := ⟨rfl, k⟩
end
end Hm

/-! F4: a caught error held as a value behind its suite; isinstance of it. -/
namespace Hm
open PySem PySem.Spec PyProof.Rows L2
/-- an error of the class cls at a -/
def ExV (cls : Value) (a : Addr) : HO := .ext fun h => ∃ (oe : Obj) (vs : Array Value), h.get? a = some oe ∧ Zc cls none oe ∧ oe.data = .fields vs
theorem exV_ok {P : Program} {w : World} {H : Hp} {h : Heap} {a : Addr} {cls : Value} {oe : Obj} {vs : Array Value} (e : h.get? a = some oe) (z : Zc cls none oe) (d : oe.data = .fields vs) : ObjOk P w H h a (ExV cls a) :=
  ⟨⟨oe, vs, e, z, d⟩, ⟨oe, e⟩, fun _ _ ⟨o, v, q, r⟩ k => ⟨o, v, k o q, r⟩⟩
section
variable {X : Cx} {pins : List (Addr × Obj)} {σ : L2.St} {H : Hp} {s : Shared}
/-- an object of ours, not told of yet, is told of -/
theorem show_ {a : Addr} {φ : Heap → Prop} (I : Inv X pins σ H s) (ha : H a = none) (h0 : X.s_0.heap.get? a = none) (hL : X.env.locals ≠ a) (hc : ∀ x c, X.env.cells.lookup x = some c → c ≠ a) (hp : ∀ p ∈ X.pn ++ pins, p.1 ≠ a)
    (new : ObjOk X.prog X.w (upd H a (.ext φ)) s.heap a (.ext φ)) : Inv X pins σ (upd H a (.ext φ)) s := by
  have old : ∀ b o, H b = some o → upd H a (.ext φ) b = some o := fun b o e => by rw [upd_ne (ne_of_none e ha)]; exact e
  refine ⟨I.ok, I.os, I.bare, ⟨I.base.keep, I.base.slot, fun b o e n hx => ?_, I.base.there, fun b xs e => old _ _ (I.base.tups b xs e), fun b o u e => old _ _ (I.base.frzs b o u e), fun b ps e => ?_⟩, I.loc, I.cell, ?_, fun x c e => ?_, fun p hpp => ?_, fun b u e => ?_, I.len⟩
  · rw [upd_ne (fun z => by rw [z, h0] at e; cases e)]
    exact I.base.free b o e n hx
  · obtain ⟨more, q⟩ := I.base.tbls b ps e
    exact ⟨more, old _ _ q⟩
  · rw [upd_ne hL]; exact I.free
  · rw [upd_ne (hc x c e)]; exact I.freeC x c e
  · obtain ⟨q1, q2, q3⟩ := I.pin p hpp
    exact ⟨q1, by rw [upd_ne (hp p hpp)]; exact q2, q3⟩
  · by_cases hb : b = a
    · subst hb
      rw [upd_same] at e
      cases e
      exact new
    · rw [upd_ne hb] at e
      exact (I.hok b u e).stay (fun _ _ _ q => q) (fun c q => old _ _ q) fun c xs q => old _ _ q
end
/-- what a clause «except c as n» wishes, the error kept: slot i is n's -/
def wVal (K : PySem.W.Frag) (c : Value) (i : Nat) (ts : Addr → Value → TS) (Wout : WX) (D : Ends) : WX := fun cls d σ H =>
  d = none ∧ ∃ b, PySem.W.exmOne K cls c = some b ∧
    (b = true → ∀ a, H a = none → ts a cls { nx := fun σ' H' => D.nx (σ'.set i none) (upd H' a (ExV cls a)), rt := D.rt, bk := fun _ _ => False, ct := fun _ _ => False } (σ.set i (some (.ref a))) H) ∧ (b = false → Wout cls d σ H)
section
variable {X : Cx} {x n : Str} {c : Value} {i : Nat} {body suite : List Stmt} {b₀ : Stmt} {np pos pos' : Pos} {tb : WX → TS} {ts : Addr → Value → TS} {Wout : WX}
/-- try: body, except x as n: suite; what is caught stays an object that is known -/
theorem ps_try_val (hs : X.stack = X.env :: X.outer) (hf : X.env.frame = some X.env.locals) (hN : X.N.Nodup) (hi : X.N[i]? = some n) (hln : X.env.kindOf n = some .local) (hc : Names X x c) (tk : Takes X Wout) (hex : X.ex = [])
    (hb : ∀ (W : WX) (pn : List (Addr × Obj)) (xe : Value → Shared → Prop), Takes (X.tr pn xe) W → PassesOwn (model X.prog X.w) X.A X.env xe → PSs (X.tr pn xe) body (tb W))
    (hsu : ∀ (a : Addr) (oe : Obj) (cls : Value) (pn : List (Addr × Obj)), PSs (X.suite a ((a, oe) :: pn)) (b₀ :: suite) (ts a cls)) :
    PS X (.Try body [.ExceptHandler (some (.Name x np)) (some n) (b₀ :: suite) pos'] [] [] pos) (fun D σ H => tb (wVal X.K c i ts Wout D) D σ H) := by
  refine ⟨fun pins s σ H D I h => wpAny_Try_except ?_⟩
  have ok := I.ok
  have hfr : X.A.frames = some (X.env :: X.outer) := by rw [ok.frames, hs]
  have run := (hb (wVal X.K c i ts Wout D) (X.pn ++ pins) (fun e s₁ => wpAny (model X.prog X.w) X.A (noteFrame e X.env) (fun _ s₂ => wpAny (model X.prog X.w) X.A (setFlight e none)
    (fun _ s₃ => wpAny (model X.prog X.w) X.A (handleBy e X.env [.ExceptHandler (some (.Name x np)) (some n) (b₀ :: suite) pos']) (SP X pins D) X.xe s₃) X.xe s₂) X.xe s₁) ?_ PassesOwn.looking).run [] s σ H D (I.toTry _) h
  · refine wpAny_mono run (fun f s1 hsp => ?_) fun _ _ z => z
    cases f with
    | next => obtain ⟨σ', H', J', q⟩ := hsp; exact wpAny_execs_nil ⟨σ', H', J'.ofTry ok, q⟩
    | brk => obtain ⟨σ', H', J', q⟩ := hsp; exact ⟨σ', H', J'.ofTry ok, q⟩
    | cont => obtain ⟨σ', H', J', q⟩ := hsp; exact ⟨σ', H', J'.ofTry ok, q⟩
    | ret u => obtain ⟨v, σ', H', J', r, q⟩ := hsp; exact ⟨v, σ', H', J'.ofTry ok, r, q⟩
  rintro u s' ⟨a, B, sI, pins', σ', H', cls, d, rfl, J', nb, up, sky, na, os, ag, rfl, b, hb1, hyes, hno⟩
  have J : Inv X pins σ' H' sI := J'.ofTry ok
  have air : Sky B (X.env :: X.outer) a (Zc cls none) X.env.locals s'.heap := by rw [← hs]; exact sky
  show wpAny (model X.prog X.w) X.A (noteFrame (.ref a) X.env) _ _ _
  refine Sky.land Zc.steady hfr hf air fun h3 fl3 up3 => ?_
  have J3 : Inv X pins σ' H' { s' with heap := h3 } := J.landed nb fl3.1 (up.trans up3) os ag
  obtain ⟨oe3, vs3, he3, hz3, hd3⟩ := fl3.there
  have aside : a ∉ frs (X.env :: X.outer) := fun hm => by
    obtain ⟨_, o', e', hnf⟩ := fl3.2.2.1.mem hm
    rw [he3] at e'; cases e'
    exact hnf _ hd3
  have gI : sI.heap.get? a = none := by
    cases e : sI.heap.get? a with
    | none => rfl
    | some o =>
      have q := nb a o e (by show a ∉ frs X.stack; rw [hs]; exact aside)
      rw [fl3.2.1] at q; cases q
  have nL : a ≠ X.env.locals := fun z => aside (List.mem_filterMap.mpr ⟨X.env, List.mem_cons_self, by rw [hf, z]⟩)
  have nF : a ∉ X.fs := fun hm => by
    obtain ⟨e, he, q⟩ := List.mem_filterMap.mp hm
    exact aside (List.mem_filterMap.mpr ⟨e, List.mem_cons_of_mem _ he, q⟩)
  have h00 : X.s_0.heap.get? a = none := by
    cases e : X.s_0.heap.get? a with
    | none => rfl
    | some o =>
      obtain ⟨o', q⟩ := J.base.there a o e (by rw [hex]; exact List.not_mem_nil)
      rw [gI] at q; cases q
  have noCell : ∀ y k, X.env.cells.lookup y = some k → k ≠ a := fun y k e z => by
    obtain ⟨v, o, q, _⟩ := J.cell y k e
    rw [z, gI] at q; cases q
  have noPin : ∀ p ∈ X.pn ++ pins, p.1 ≠ a := fun p hp z => by
    have q := (J.pin p hp).1
    rw [z, gI] at q; cases q
  have S3 := J3.suite he3 hd3 na nL nF
  refine wpAny_handleBy_cons (codeAny_handlers_test ?_) (by intro q; cases q)
  have LT : PySem.W.Looks (model X.prog X.w) h3 (typeOf (.ref a)) cls := fun A Q E s k q => wpAny_typeOf_ref (k _ _ he3) (by rw [hz3.1]; exact q)
  have LM := PySem.W.exm_one (M := model X.prog X.w) (J3.kIn) LT hb1
  have test : ∀ {Q : Value → Shared → Prop} {E : Value → Shared → Prop}, Q c { s' with heap := h3 } → wpAny (model X.prog X.w) (X.A.mark (some (.ref a))) (eval (.Name x np) X.env) Q E { s' with heap := h3 } := fun {Q E} q => by
    obtain ⟨hg, hdbg, hm | ⟨hm, hv, hnn⟩⟩ := hc
    · exact ld_glob (X := X.suite a ((a, oe3) :: (X.pn ++ pins))) S3 hg hm q hdbg
    · exact ld_blt (X := X.suite a ((a, oe3) :: (X.pn ++ pins))) S3 hg hm hv q hnn hdbg
  refine test (LM.here ?_)
  cases b with
  | false =>
    show wpAny _ X.A (handleBy (.ref a) X.env []) _ _ _
    refine wpAny_handleBy_nil ?_
    obtain ⟨k1, k2, k3, oe, vs, T, oT, ts', he, hz, hd, h1, hr⟩ := id fl3
    unfold PySem.passOn
    refine wpAny_bind (wpAny_field he hd h1 ?_)
    rw [if_neg (show ¬ ((Value.ref T == Value.none) = true) from by simp)]
    have fin : wpAny (model X.prog X.w) X.A (setFlight (.ref a) X.env.frame) (fun _ s4 => wpAny (model X.prog X.w) X.A (throw (.ref a) : Sem Flow) (SP X pins D) X.xe s4) X.xe { s' with heap := h3 } := by
      rw [hf]
      refine HandSPX.setFlight_upZ fl3 fun h4 hh4 up4 => wpAny_throw (tk _ _ ?_)
      exact ⟨a, B, sI, pins, σ', H', cls, none, rfl, J, nb, (up.trans up3).trans up4, .inr (.inr (by rw [hs]; exact hh4)), na, os, ag, hno rfl⟩
    first
      | exact wpAny_bind (wpAny_pure (wpAny_bind fin))
      | exact wpAny_bind fin
  | true =>
    refine codeAny_handlers_suite_as (HandSPX.lands_againZ fl3 fun h4 fl4 up4 => ?_)
    have J4 : Inv X pins σ' H' { s' with heap := h4 } := J.landed nb fl4.1 ((up.trans up3).trans up4) os ag
    obtain ⟨oe4, vs4, he4, hz4, hd4⟩ := fl4.there
    have S4 := J4.suite he4 hd4 na nL nF
    refine store_ok (X := X.suite a ((a, oe4) :: (X.pn ++ pins))) (v := .ref a) S4 hN hi (.inl hln) rfl (fun s5 S5 => ?_) (.inr hln)
    refine wpAny_mono ((hsu a oe4 cls (X.pn ++ pins)).run [] s5 _ H' _ S5 (hyes rfl a na)) (fun f s6 hsp => ?_) (fun _ _ z => False.elim z)
    cases f with
    | next =>
      obtain ⟨σ6, H6, S6, q6⟩ := hsp
      obtain ⟨e6, n6, _⟩ := S6.pin (a, oe4) (List.mem_append_left _ List.mem_cons_self)
      have J6 : Inv X pins σ6 H6 s6 := S6.unsuite ok
      have J7 := show_ (φ := fun h => ∃ (oe : Obj) (vs : Array Value), h.get? a = some oe ∧ Zc cls none oe ∧ oe.data = .fields vs) J6 n6 h00 nL.symm noCell noPin (exV_ok e6 hz4 hd4)
      exact gone_ok J7 hN hi hln fun s7 J8 => ⟨_, _, J8, q6⟩
    | brk => obtain ⟨σ6, H6, S6, q6⟩ := hsp; exact q6.elim
    | cont => obtain ⟨σ6, H6, S6, q6⟩ := hsp; exact q6.elim
    | ret u =>
      obtain ⟨v6, σ6, H6, S6, r6, q6⟩ := hsp
      exact gone_ok (S6.unsuite ok) hN hi hln fun s7 J7 => ⟨_, _, _, J7, r6, q6⟩
end
/-- isinstance(e, C), e an error that is known -/
def uIsV (K : PySem.W.Frag) : List V → Hp → VK → Prop := fun xs H Q => ∃ (a D : Addr) (c : V) (u : Value) (b : Bool), xs = [.ref a, c] ∧ H a = some (ExV (.ref D) a) ∧ ExcC K D ∧ ClsV c u ∧ PySem.W.kitOne K (.ref D) u = some b ∧ Q (.bl b) H
theorem k_isV {X : Cx} : CallR X (.builtin "isinstance") (uIsV X.K) := by
  intro pins s σ H xs us Q I r h
  obtain ⟨a, D, c, u, b, rfl, ha, C, hc, e, q⟩ := h
  obtain ⟨u1, u2, rfl, r1, r2⟩ := vals2 r
  have e2 := hc.eq r2
  subst e2
  cases r1
  obtain ⟨⟨oe, vs, hg, hz, hv⟩, _⟩ := I.hok a _ ha
  have J : PySem.W.InstAt s.heap a oe D none := by
    obtain ⟨oc, od, oda, osl⟩ := oe
    obtain ⟨h1, h2⟩ := hz
    dsimp only at h1 h2 hv
    subst h1 h2 hv
    exact ⟨hg, rfl, rfl, trivial⟩
  exact PySem.W.kia_one (PySem.W.handS_kitx_exc C.hg C.hk C.hs C.hd C.ha C.hn C.ht C.hm) I.kIn J e (fun z => nomatch z) fun tk => ⟨.bl b, H, I.tok tk, rfl, q⟩
/-! ### defs that raise, called within a try -/
section
variable {X : Cx} {k j : Nat} {C : Addr} {x m : Str} {sp : Sp} {p pos apos : Pos} {e o : Expr} {es : List Expr} {ta : TE} {t : TA} {W : WX}
def tMethS (C : Addr) (m : Str) (sp : Sp) (W : WX) (ta : TE) (t : TA) : TE := fun σ H Q => tMeth C m sp [] (fun cls d H => W cls d σ H) ta t σ H Q
theorem r_methS {σ : L2.St} {H : Hp} {Q : VK} (h : tMeth C m sp [] (fun cls d H => W cls d σ H) ta t σ H Q) : tMethS C m sp W ta t σ H Q := h
def tCallW (sp : Sp) (W : WX) (t : TA) : TE := fun σ H Q => tCall sp [] (fun cls d H => W cls d σ H) t σ H Q
theorem r_callW {σ : L2.St} {H : Hp} {Q : VK} (h : tCall sp [] (fun cls d H => W cls d σ H) t σ H Q) : tCallW sp W t σ H Q := h
theorem e_callS (c : Cal X.prog X.w X.K X.mg X.base (L2.CX X.prog X.w) k x sp) (hr : Room j X.A) (hk : k ≤ j) (tk : Takes X W) (hg : Gl X x) (ha : PA X (e :: es) t)
    (hdb : (x == ("__debug__" : Str)) = false := by decide) (he : starEach (e :: es) X.env = (false, eval e X.env) :: starEach es X.env := by rfl) (hpl : (backTo pos (starEach es X.env)).any (·.1) = false := by rfl) :
    PE X (.Call (.Name x p) (e :: es) [] pos) (tCallW sp W t) := by
  obtain ⟨f, fd, ps, F, hm, kp, b⟩ := c.ex
  refine ⟨fun pins s σ H Q I h => ?_⟩
  refine (pe_callS (E := WE W) F (hr.mono hk) hg hm kp b (fun σ => passAt tk σ) ha hdb he hpl).run pins s σ H Q I ?_
  have h' : t σ H fun vs H1 => sp (vs ++ []) H1 Q (fun cls d H => W cls d σ H) := h
  show t σ H fun vs H1 => sp vs H1 Q (fun cls d H => W cls d σ H)
  simpa only [List.append_nil] using h'
theorem e_methS {pl : Sem Bool} (c : Met X.prog X.w X.K X.mg X.base (L2.CX X.prog X.w) k C m sp) (hr : Room j X.A) (hk : k ≤ j) (tk : Takes X W) (he : PE X o ta) (ha : PA X (e :: es) t)
    (h1 : starEach (e :: es) X.env = (false, eval e X.env) :: starEach es X.env := by rfl) (h2 : (backTo pos (starEach es X.env)).any (·.1) = false := by rfl)
    (h3 : eval (.Call (.Attribute o m apos) (e :: es) [] pos) X.env = (do let ov ← eval o X.env; standAt apos.atName; let (f, first) ← holding [ov] (getMethod ov m pl)
                                                                          callWith pos f first (backTo pos (starEach (e :: es) X.env)) (backToKw pos (keywordEach [] X.env))) := by rfl) :
    PE X (.Call (.Attribute o m apos) (e :: es) [] pos) (tMethS C m sp W ta t) := by
  obtain ⟨f, fd, ps, hc, hm, F, b⟩ := c.ex
  refine ⟨fun pins s σ H Q I h => PySem.W.methodCall_KW (pl := pl) (thn (he.run pins s σ H _ I h) fun u s1 ⟨y, H1, I1, rx, a, dx, fs, ey, ea, l, q⟩ => ?_) h3⟩
  subst ey
  obtain rfl : u = Value.ref a := rx
  refine getmeth_ok I1 ea hc hm l (PySem.W.callWith_K (first := [.ref a]) (h₀ := X.base) I.ok.mod.kin hm.kp (thn (ha.run pos pins s1 σ H1 _ I1 q) fun us s2 ⟨vs, H2, I2, r, q2⟩ => ⟨I2.kIn, ?_⟩) h1 h2)
  refine run_fnS (E := WE W) (us := .ref a :: us) (vs := .ref a :: vs) F (hr.mono hk) b (fun _ _ _ e s' I c => tk e s' (XE.of_call I (fun _ _ _ h => h) c)) I2 (.cons rfl r) ?_
  have q' : sp (.ref a :: vs ++ []) H2 Q (fun cls d H => W cls d σ H) := q2
  simpa only [List.append_nil] using q'
end
/-! ### raise -/
def tRaiseC (C : Addr) (W : WX) : TS := fun _ σ H => W (.ref C) none σ H
def tRaiseE (C : Addr) (W : WX) (te : TE) : TS := fun _ σ H => te σ H fun _ H1 => W (.ref C) none σ H1
theorem r_raiseC {C : Addr} {W : WX} {D : Ends} {σ : L2.St} {H : Hp} (h : W (.ref C) none σ H) : tRaiseC C W D σ H := h
theorem r_raiseE {C : Addr} {W : WX} {te : TE} {D : Ends} {σ : L2.St} {H : Hp} (h : te σ H fun _ H1 => W (.ref C) none σ H1) : tRaiseE C W te D σ H := h
/-- what stands of a refusal's class -/
structure XCl (K : PySem.W.Frag) (mg : Str → Option Value) (x : Str) (C : Addr) : Prop where
  g : mg x = some (.ref C)
  x : PySem.W.excIn K C [.type "ValueError", .type "Exception", .type "BaseException", .type "object"] "ValueError.__new__" = true
  k : PySem.W.keepIn K (.ref C) = true
  b : PySem.W.subIn K (.ref C) (.type "BaseException") = some true
  t : PySem.W.typeIn K (.ref C) = some (.type "type")
section
variable {X : Cx} {C : Addr} {x m : Str} {p p2 pos pos' : Pos} {jj : Nat} {e : Expr} {ta : TE} {W : WX}
theorem ps_raiseC (hc : X.calm = true) (tk : Takes X W) (c : XCl X.K X.mg x C) (hg : Gl X x) (hdb : (x == ("__debug__" : Str)) = false := by decide) : PS X (.Raise (some (.Call (.Name x p) [.Constant (.str m) jj p2] [] pos)) none pos') (tRaiseC C W) :=
  ps_raise hc tk (pmk_own PySem.F.excBase_ValueError c.x c.g c.k (raises_own c.b c.t) hg hdb)
theorem ps_raiseE (hc : X.calm = true) (tk : Takes X W) (c : XCl X.K X.mg x C) (hg : Gl X x) (he : PE X e ta) (hs : starEach [e] X.env = (false, eval e X.env) :: starEach [] X.env := by rfl) (hdb : (x == ("__debug__" : Str)) = false := by decide) :
    PS X (.Raise (some (.Call (.Name x p) [e] [] pos)) none pos') (tRaiseE C W ta) :=
  ps_raise hc tk (SkE.pmk_own1 PySem.F.excBase_ValueError c.x c.g c.k (raises_own c.b c.t) hg he hs hdb)
end
/-! ### try -/
def tTryV (K : PySem.W.Frag) (c : Value) (i : Nat) (ts : TS) (tb : WX → TS) : TS := fun D σ H => tb (wVal K c i (fun _ _ => ts) (fun _ _ _ _ => False) D) D σ H
theorem r_tryV {K : PySem.W.Frag} {c : Value} {i : Nat} {ts : TS} {tb : WX → TS} {D : Ends} {σ : L2.St} {H : Hp} (h : tb (wVal K c i (fun _ _ => ts) (fun _ _ _ _ => False) D) D σ H) : tTryV K c i ts tb D σ H := h
theorem w_val {K : PySem.W.Frag} {c cls : Value} {i : Nat} {ts : TS} {D : Ends} {σ : L2.St} {H : Hp} (hm : PySem.W.exmOne K cls c = some true)
    (h : ∀ a, H a = none → ts { nx := fun σ' H' => D.nx (σ'.set i none) (upd H' a (ExV cls a)), rt := D.rt, bk := fun _ _ => False, ct := fun _ _ => False } (σ.set i (some (.ref a))) H) : wVal K c i (fun _ _ => ts) (fun _ _ _ _ => False) D cls none σ H :=
  ⟨rfl, true, hm, fun _ a ha => h a ha, fun z => nomatch z⟩
section
variable {X : Cx} {x n : Str} {c : Value} {i : Nat} {body suite : List Stmt} {b₀ : Stmt} {np pos pos' : Pos} {tb : WX → TS} {ts : TS}
theorem ps_tryV (hs : X.stack = X.env :: X.outer) (hf : X.env.frame = some X.env.locals) (hN : X.N.Nodup) (hi : X.N[i]? = some n) (hln : X.env.kindOf n = some .local) (hc : Names X x c) (hex : X.ex = [])
    (hb : ∀ (W : WX) (pn : List (Addr × Obj)) (xe : Value → Shared → Prop), Takes (X.tr pn xe) W → PassesOwn (model X.prog X.w) X.A X.env xe → PSs (X.tr pn xe) body (tb W))
    (hsu : ∀ (a : Addr) (oe : Obj) (pn : List (Addr × Obj)), PSs (X.suite a ((a, oe) :: pn)) (b₀ :: suite) ts) :
    PS X (.Try body [.ExceptHandler (some (.Name x np)) (some n) (b₀ :: suite) pos'] [] [] pos) (tTryV X.K c i ts tb) :=
  ps_try_val (tb := tb) (ts := fun _ _ => ts) hs hf hN hi hln hc takes0 hex (fun W pn xe tk po => hb W pn xe tk po) fun a oe _ pn => hsu a oe pn
end
theorem v_isiN {K : PySem.W.Frag} {H : Hp} {Q : VK} {n : String} {b : Bool} (e : kitB "NoneType" n = some b) (k : Q (.bl b) H) : rIsi K [.non, .ty n] H Q := v_isi (.ty n) (.base .non) (kit_ty e) k
theorem v_isV {K : PySem.W.Frag} {a D : Addr} {c : V} {u : Value} {b : Bool} {H : Hp} {Q : VK} (h : H a = some (ExV (.ref D) a)) (d : ExcC K D) (hc : ClsV c u) (e : PySem.W.kitOne K (.ref D) u = some b) (q : Q (.bl b) H) : uIsV K [.ref a, c] H Q := ⟨a, D, c, u, b, rfl, h, d, hc, e, q⟩
/-! ### list(d.values()), xs.remove(k) -/
/-- a view of the values of the dict at a -/
def ValO (a p : Addr) : HO := .ext fun h => h.IsValuesView p a
def rDVals : V → List V → Hp → VK → Prop := fun x xs H Q => ∃ (a : Addr) (kvs : List (L2.Key × V)), x = .ref a ∧ xs = [] ∧ H a = some (.dK kvs) ∧ ∀ p, H p = none → Q (.ref p) (upd H p (ValO a p))
def rListV : List V → Hp → VK → Prop := fun xs H Q => ∃ (a p : Addr) (kvs : List (L2.Key × V)), xs = [.ref p] ∧ H p = some (ValO a p) ∧ H a = some (.dK kvs) ∧ ∀ q, H q = none → Q (.ref q) (upd H q (.lst (kvs.map (·.2))))
section
variable {X : Cx}
theorem mt_dvals : MtR X "dict.values" rDVals := by
  intro pins s σ H x xs v us Q I rx r h
  obtain ⟨a, kvs, rfl, rfl, ha, q⟩ := h
  obtain rfl : v = Value.ref a := rx
  cases r
  obtain ⟨_, hsys, vs, rel, dof⟩ := dk_of I.hok ha
  obtain ⟨ep, dat⟩ := dof.dictAt
  obtain ⟨ob, es, ho, ex, hdat, hko, hpr, hnd⟩ := id dat
  refine call_meetsIn F.slot_dict_values ⟨ob, ho, ex.1⟩ F.entry_dict_values (F.args_dict_values_1 _) (meets_dict_values (mixKind X.prog X.w) a hsys) ⟨⟨vs, dof⟩, ?_⟩
  exact ⟨.ref s.heap.objs.size, upd H s.heap.objs.size (ValO a s.heap.objs.size), I.laid (t' := s.toks) (fun b u e => Heap.get?_push_of_some _ e) (Nat.le_refl _) ⟨⟨_, Heap.get?_push_size _ rfl, rfl, rfl⟩, ⟨_, Heap.get?_push_size _ rfl⟩, fun _ _ ⟨o, e, z⟩ k => ⟨o, k o e, z⟩⟩, rfl, q _ (I.hok.fresh (Nat.le_refl _))⟩
theorem k_listV (hc : X.calm = true) : CallR X (.type "list") rListV := by
  intro pins s σ H xs us Q I r h
  obtain ⟨a, p, kvs, rfl, hp, ha, q⟩ := h
  obtain ⟨u, rfl, rx⟩ := vals1 r
  obtain rfl : u = Value.ref p := rx
  obtain ⟨view, _⟩ := I.hok p _ hp
  obtain ⟨z, hsys, vs, rel, dof⟩ := dk_of I.hok ha
  obtain ⟨ep, dat⟩ := dof.dictAt
  have hl : kvs.length = vs.length := KV.length rel
  refine PySem.W.kdl_call (PySem.W.kdl_values (knd := mixKind X.prog X.w) (kvs := vs) (ep := ep)) (I.ok.hd hc) ⟨view, dat⟩ (by rw [← hl]; exact z) fun h' tk acc' c' hkeep hS hacc => ?_
  refine ⟨.ref s.heap.objs.size, upd H s.heap.objs.size (.lst (kvs.map (·.2))), I.laid (t' := tk) hkeep (Nat.le_refl _) (show ObjOk X.prog X.w _ _ _ (.lst (kvs.map (·.2))) from ⟨by rw [List.length_map]; exact z, acc'.toList, c', ?_, by rw [Array.toArray_toList]; exact hS⟩), rfl, q _ (I.hok.fresh (Nat.le_refl _))⟩
  have el : acc'.toList.length = acc'.size := by simp
  refine vals_of_at (by rw [List.length_map, el, hacc.1, hl]) fun j x w h1 h2 => ?_
  obtain ⟨k, hk⟩ := hacc.2 j w (by rw [← Array.getElem?_toList]; exact h2)
  obtain ⟨x', e1, e2⟩ := KV.at' rel hk
  rw [List.getElem?_map, e1] at h1
  cases h1
  exact e2
end
theorem v_dvals {a : Addr} {kvs : List (L2.Key × V)} {H : Hp} {Q : VK} (h : H a = some (.dK kvs)) (k : ∀ p, H p = none → Q (.ref p) (upd H p (ValO a p))) : rDVals (.ref a) [] H Q := ⟨a, kvs, rfl, rfl, h, k⟩
theorem r_dvals {K : PySem.W.Frag} {a : Addr} {kvs : List (L2.Key × V)} {H : Hp} {Q : VK} {σ : L2.St} (h : H a = some (.dK kvs)) (k : ∀ p, H p = none → Q (.ref p) (upd H p (ValO a p))) : kBM K "dict" rDVals tNil σ (.ref a) H Q := ⟨.inr (.inr (.inl ⟨rfl, .inl ⟨kvs, h⟩⟩)), v_dvals h k⟩
theorem v_listV {a p : Addr} {kvs : List (L2.Key × V)} {H : Hp} {Q : VK} (h : H p = some (ValO a p)) (h2 : H a = some (.dK kvs)) (k : ∀ q, H q = none → Q (.ref q) (upd H q (.lst (kvs.map (·.2))))) : rListV [.ref p] H Q := ⟨a, p, kvs, rfl, h, h2, k⟩
theorem r_remX {K : PySem.W.Frag} {W : WX} {to te : TE} {σ : L2.St} {H : Hp} {Q : VK} (h : to σ H fun x H1 => tyV K "list" x H1 ∧ te σ H1 fun y H2 => ∃ (l : Addr) (ns : List Int) (k : Int), x = .ref l ∧ y = .int k ∧ H2 l = some (.lst (ns.map V.int)) ∧
  (k ∈ ns → Q .non (upd H2 l (.lst ((ns.erase k).map V.int)))) ∧ (k ∉ ns → ∀ d, W (.type "ValueError") d σ H2)) : tRemX K W to te σ H Q := h
end Hm

/-! F5: values. Rp W H v d: v is the data d, all its objects outside of W. -/
namespace Hm
open PySem PySem.Spec PyProof.Rows L2
mutual
inductive Rp (W : Addr → Prop) (H : Hp) : V → PyData → Prop
  | non : Rp W H .non .none
  | bl (b : Bool) : Rp W H (.bl b) (.bool b)
  | int (i : Int) : Rp W H (.int i) (.int i)
  | str (x : Str) : Rp W H (.str x) (.str x)
  | lst {a : Addr} {xs : List V} {ds : List PyData} : H a = some (.lst xs) → ¬ W a → RpA W H xs ds → Rp W H (.ref a) (.list ds)
  | tup {a : Addr} {xs : List V} {ds : List PyData} : H a = some (.tup xs) → ¬ W a → RpA W H xs ds → Rp W H (.ref a) (.tuple ds)
inductive RpA (W : Addr → Prop) (H : Hp) : List V → List PyData → Prop
  | nil : RpA W H [] []
  | cons {v : V} {vs : List V} {d : PyData} {ds : List PyData} : Rp W H v d → RpA W H vs ds → RpA W H (v :: vs) (d :: ds)
end
section
variable {W W' : Addr → Prop} {H H' : Hp} {K : PySem.W.Frag}
mutual
theorem Rp.move (f : ∀ a o, ¬ W a → H a = some o → H' a = some o ∧ ¬ W' a) : ∀ (d : PyData) (v : V), Rp W H v d → Rp W' H' v d
  | .none, _, h => by cases h; exact .non
  | .bool b, _, h => by cases h; exact .bl b
  | .int i, _, h => by cases h; exact .int i
  | .str x, _, h => by cases h; exact .str x
  | .list ds, _, h => by
    cases h with
    | lst e n r => exact .lst (f _ _ n e).1 (f _ _ n e).2 (RpA.move f ds _ r)
  | .tuple ds, _, h => by
    cases h with
    | tup e n r => exact .tup (f _ _ n e).1 (f _ _ n e).2 (RpA.move f ds _ r)
  | .dict _, _, h => by cases h
theorem RpA.move (f : ∀ a o, ¬ W a → H a = some o → H' a = some o ∧ ¬ W' a) : ∀ (ds : List PyData) (vs : List V), RpA W H vs ds → RpA W' H' vs ds
  | [], _, h => by cases h; exact .nil
  | d :: ds, _, h => by
    cases h with
    | cons r s => exact .cons (Rp.move f d _ r) (RpA.move f ds _ s)
end
mutual
theorem Rp.dp : ∀ (d : PyData) (v : V), Rp W H v d → Dp K H v d
  | .none, _, h => by cases h; exact .non
  | .bool b, _, h => by cases h; exact .bl b
  | .int i, _, h => by cases h; exact .int i
  | .str x, _, h => by cases h; exact .str x
  | .list ds, _, h => by
    cases h with
    | lst e n r => exact .lst (SqL.of e) (RpA.dp ds _ r)
  | .tuple ds, _, h => by
    cases h with
    | tup e n r => exact .tup (SqT.of e) (RpA.dp ds _ r)
  | .dict _, _, h => by cases h
theorem RpA.dp : ∀ (ds : List PyData) (vs : List V), RpA W H vs ds → DpAll K H vs ds
  | [], _, h => by cases h; exact .nil
  | d :: ds, _, h => by
    cases h with
    | cons r s => exact .cons (Rp.dp d _ r) (RpA.dp ds _ s)
end
theorem Rp.keep {v : V} {d : PyData} (h : Rp W H v d) (k : Keep W H H') : Rp W H' v d := Rp.move (fun a o n e => ⟨k a o n e, n⟩) d v h
theorem RpA.keep {v : List V} {d : List PyData} (h : RpA W H v d) (k : Keep W H H') : RpA W H' v d := RpA.move (fun a o n e => ⟨k a o n e, n⟩) d v h
theorem Rp.same {v : V} {d : PyData} (h : Rp W H v d) (k : Keep Nil H H') : Rp W H' v d := h.keep k.weak
theorem RpA.same {v : List V} {d : List PyData} (h : RpA W H v d) (k : Keep Nil H H') : RpA W H' v d := h.keep k.weak
theorem Rp.sub {v : V} {d : PyData} (h : Rp W H v d) (s : ∀ x, W' x → W x) : Rp W' H v d := Rp.move (fun a o n e => ⟨e, fun z => n (s _ z)⟩) d v h
theorem RpA.sub {v : List V} {d : List PyData} (h : RpA W H v d) (s : ∀ x, W' x → W x) : RpA W' H v d := RpA.move (fun a o n e => ⟨e, fun z => n (s _ z)⟩) d v h
/-- a new cell may be marked as one that changes -/
theorem Rp.own {v : V} {d : PyData} {p : Addr} (h : Rp W H v d) (hp : H p = none) : Rp (fun x => W x ∨ x = p) H v d :=
  Rp.move (fun a o n e => ⟨e, fun z => z.elim n (ne_of_none e hp)⟩) d v h
theorem RpA.own {v : List V} {d : List PyData} {p : Addr} (h : RpA W H v d) (hp : H p = none) : RpA (fun x => W x ∨ x = p) H v d :=
  RpA.move (fun a o n e => ⟨e, fun z => z.elim n (ne_of_none e hp)⟩) d v h
/-- W' is W and cells that are new at H -/
theorem Rp.grow {v : V} {d : PyData} (h : Rp W H v d) (s : ∀ x, W' x → W x ∨ H x = none) : Rp W' H v d :=
  Rp.move (fun a o n e => ⟨e, fun z => (s _ z).elim n fun w => by rw [e] at w; cases w⟩) d v h
theorem RpA.grow {v : List V} {d : List PyData} (h : RpA W H v d) (s : ∀ x, W' x → W x ∨ H x = none) : RpA W' H v d :=
  RpA.move (fun a o n e => ⟨e, fun z => (s _ z).elim n fun w => by rw [e] at w; cases w⟩) d v h
theorem Rp.list_ {v : V} {ds : List PyData} (h : Rp W H v (.list ds)) : ∃ a xs, v = .ref a ∧ H a = some (.lst xs) ∧ ¬ W a ∧ RpA W H xs ds := by
  cases h with
  | lst e n r => exact ⟨_, _, rfl, e, n, r⟩
theorem Rp.tuple_ {v : V} {ds : List PyData} (h : Rp W H v (.tuple ds)) : ∃ a xs, v = .ref a ∧ H a = some (.tup xs) ∧ ¬ W a ∧ RpA W H xs ds := by
  cases h with
  | tup e n r => exact ⟨_, _, rfl, e, n, r⟩
theorem Rp.int_ {v : V} {i : Int} (h : Rp W H v (.int i)) : v = .int i := by cases h; rfl
theorem Rp.str_ {v : V} {i : Str} (h : Rp W H v (.str i)) : v = .str i := by cases h; rfl
theorem Rp.bool_ {v : V} {i : Bool} (h : Rp W H v (.bool i)) : v = .bl i := by cases h; rfl
theorem Rp.none_ {v : V} (h : Rp W H v .none) : v = .non := by cases h; rfl
theorem RpA.nil_ {vs : List V} (h : RpA W H vs []) : vs = [] := by cases h; rfl
theorem RpA.cons_ {vs : List V} {d : PyData} {ds : List PyData} (h : RpA W H vs (d :: ds)) : ∃ v r, vs = v :: r ∧ Rp W H v d ∧ RpA W H r ds := by
  cases h with
  | cons r s => exact ⟨_, _, rfl, r, s⟩
theorem Rp.two {v : V} {d e : PyData} (h : Rp W H v (.tuple [d, e])) : ∃ a x y, v = .ref a ∧ H a = some (.tup [x, y]) ∧ ¬ W a ∧ Rp W H x d ∧ Rp W H y e := by
  obtain ⟨a, xs, rfl, e, n, r⟩ := h.tuple_
  obtain ⟨x, _, rfl, r1, r⟩ := r.cons_
  obtain ⟨y, _, rfl, r2, r⟩ := r.cons_
  cases r.nil_
  exact ⟨a, x, y, rfl, e, n, r1, r2⟩
theorem Rp.mk2 {a : Addr} {x y : V} {d e : PyData} (h : H a = some (.tup [x, y])) (n : ¬ W a) (r1 : Rp W H x d) (r2 : Rp W H y e) : Rp W H (.ref a) (.tuple [d, e]) := .tup h n (.cons r1 (.cons r2 .nil))
theorem RpA.len : ∀ {ds : List PyData} {vs : List V}, RpA W H vs ds → vs.length = ds.length
  | [], _, h => by rw [h.nil_]; rfl
  | d :: ds, _, h => by
    obtain ⟨v, r, rfl, _, h⟩ := h.cons_
    rw [List.length_cons, List.length_cons, h.len]
theorem RpA.at_ : ∀ {ds : List PyData} {vs : List V} {i : Nat} {d : PyData}, RpA W H vs ds → ds[i]? = some d → ∃ v, vs[i]? = some v ∧ Rp W H v d
  | [], _, _, _, _, e => by simp at e
  | d :: ds, _, i, x, h, e => by
    obtain ⟨v, r, rfl, h1, h⟩ := h.cons_
    cases i with
    | zero => simp at e; subst e; exact ⟨v, rfl, h1⟩
    | succ i =>
      obtain ⟨w, e1, e2⟩ := h.at_ (i := i) (by simpa using e)
      exact ⟨w, by simpa using e1, e2⟩
theorem RpA.at' {ds : List PyData} {vs : List V} {i : Nat} {v : V} (h : RpA W H vs ds) (e : vs[i]? = some v) : ∃ d, ds[i]? = some d ∧ Rp W H v d := by
  have hi : i < ds.length := by rw [← h.len]; exact (List.getElem?_eq_some_iff.mp e).1
  obtain ⟨w, e1, e2⟩ := h.at_ (List.getElem?_eq_getElem hi)
  rw [e] at e1; cases e1
  exact ⟨_, List.getElem?_eq_getElem hi, e2⟩
theorem RpA.app : ∀ {ds es : List PyData} {vs us : List V}, RpA W H vs ds → RpA W H us es → RpA W H (vs ++ us) (ds ++ es)
  | [], _, _, _, h, k => by rw [h.nil_]; exact k
  | d :: ds, _, _, _, h, k => by
    obtain ⟨v, r, rfl, h1, h⟩ := h.cons_
    exact .cons h1 (h.app k)
theorem RpA.snoc {ds : List PyData} {vs : List V} {v : V} {d : PyData} (h : RpA W H vs ds) (k : Rp W H v d) : RpA W H (vs ++ [v]) (ds ++ [d]) := h.app (.cons k .nil)
theorem RpA.take : ∀ (n : Nat) {ds : List PyData} {vs : List V}, RpA W H vs ds → RpA W H (vs.take n) (ds.take n)
  | 0, _, _, _ => by simp; exact .nil
  | n + 1, [], _, h => by rw [h.nil_]; simp; exact .nil
  | n + 1, d :: ds, _, h => by
    obtain ⟨v, r, rfl, h1, h⟩ := h.cons_
    exact .cons h1 (h.take n)
theorem RpA.drop : ∀ (n : Nat) {ds : List PyData} {vs : List V}, RpA W H vs ds → RpA W H (vs.drop n) (ds.drop n)
  | 0, _, _, h => h
  | n + 1, [], _, h => by rw [h.nil_]; simp; exact .nil
  | n + 1, d :: ds, _, h => by
    obtain ⟨v, r, rfl, h1, h⟩ := h.cons_
    exact h.drop n
theorem RpA.rev : ∀ {ds : List PyData} {vs : List V}, RpA W H vs ds → RpA W H vs.reverse ds.reverse
  | [], _, h => by rw [h.nil_]; exact .nil
  | d :: ds, _, h => by
    obtain ⟨v, r, rfl, h1, h⟩ := h.cons_
    rw [List.reverse_cons, List.reverse_cons]
    exact h.rev.snoc h1
theorem RpA.ints_ : ∀ {l : List Int} {vs : List V}, RpA W H vs (l.map .int) → vs = l.map V.int
  | [], _, h => h.nil_
  | x :: l, _, h => by
    obtain ⟨v, r, rfl, h1, h⟩ := h.cons_
    rw [h1.int_, h.ints_]; rfl
theorem RpA.ints : ∀ (l : List Int), RpA W H (l.map V.int) (l.map .int)
  | [] => .nil
  | x :: l => .cons (.int x) (RpA.ints l)
theorem RpA.strs_ : ∀ {l : List Str} {vs : List V}, RpA W H vs (l.map .str) → vs = l.map V.str
  | [], _, h => h.nil_
  | x :: l, _, h => by
    obtain ⟨v, r, rfl, h1, h⟩ := h.cons_
    rw [h1.str_, h.strs_]; rfl
theorem RpA.strs : ∀ (l : List Str), RpA W H (l.map V.str) (l.map .str)
  | [] => .nil
  | x :: l => .cons (.str x) (RpA.strs l)
end
/-- data of ints -/
abbrev dI (l : List Int) : PyData := .list (l.map PyData.int)
theorem Rp.ints_ {W : Addr → Prop} {H : Hp} {v : V} {l : List Int} (h : Rp W H v (dI l)) : ∃ a, v = .ref a ∧ H a = some (.lst (l.map V.int)) ∧ ¬ W a := by
  obtain ⟨a, xs, rfl, e, n, r⟩ := h.list_
  rw [r.ints_] at e
  exact ⟨a, rfl, e, n⟩
theorem Rp.ints {W : Addr → Prop} {H : Hp} {a : Addr} {l : List Int} (h : H a = some (.lst (l.map V.int))) (n : ¬ W a) : Rp W H (.ref a) (dI l) := .lst h n (RpA.ints l)
/-! ### data that Python tells apart as we do -/
mutual
def pl : PyData → Bool
  | .none => true
  | .int _ => true
  | .str x => (PyData.str x).canLay0
  | .bool _ => false
  | .dict _ => false
  | .list ds => plA ds
  | .tuple ds => plA ds
def plA : List PyData → Bool
  | [] => true
  | d :: ds => pl d && plA ds
end
mutual
theorem eqv_iff : ∀ (d e : PyData), pl d = true → pl e = true → (PyData.eqv d e = true ↔ d = e)
  | .none, e, _, _ => by cases e <;> simp [PyData.eqv]
  | .int i, e, _, h => by cases e <;> simp [PyData.eqv] <;> simp [pl] at h
  | .str i, e, _, _ => by cases e <;> simp [PyData.eqv]
  | .bool _, _, h, _ => by simp [pl] at h
  | .dict _, _, h, _ => by simp [pl] at h
  | .list ds, e, h, k => by
    cases e <;> simp [PyData.eqv]
    exact eqvA_iff ds _ (by simpa [pl] using h) (by simpa [pl] using k)
  | .tuple ds, e, h, k => by
    cases e <;> simp [PyData.eqv]
    exact eqvA_iff ds _ (by simpa [pl] using h) (by simpa [pl] using k)
theorem eqvA_iff : ∀ (ds es : List PyData), plA ds = true → plA es = true → (PyData.eqvAll ds es = true ↔ ds = es)
  | [], es, _, _ => by cases es <;> simp [PyData.eqvAll]
  | d :: ds, es, h, k => by
    cases es with
    | nil => simp [PyData.eqvAll]
    | cons e es =>
      rw [plA, Bool.and_eq_true] at h k
      simp only [PyData.eqvAll, Bool.and_eq_true, List.cons.injEq]
      rw [eqv_iff d e h.1 k.1, eqvA_iff ds es h.2 k.2]
end
theorem plA_mem : ∀ {ds : List PyData}, plA ds = true ↔ ∀ d ∈ ds, pl d = true
  | [] => by simp [plA]
  | d :: ds => by simp [plA, plA_mem (ds := ds)]
theorem plA_map {α : Type} {f : α → PyData} {l : List α} (h : ∀ x, pl (f x) = true) : plA (l.map f) = true := plA_mem.mpr fun d hd => by
  obtain ⟨x, _, rfl⟩ := List.mem_map.mp hd
  exact h x
open Classical in
theorem eqv_dec {d e : PyData} (h : pl d = true) (k : pl e = true) : PyData.eqv d e = decide (d = e) := by
  by_cases z : d = e
  · rw [decide_eq_true z]; exact (eqv_iff d e h k).mpr z
  · rw [decide_eq_false z]
    cases q : PyData.eqv d e with
    | false => rfl
    | true => exact absurd ((eqv_iff d e h k).mp q) z
theorem eqv_inj {α : Type} [DecidableEq α] {f : α → PyData} (hp : ∀ x, pl (f x) = true) (inj : ∀ x y, f x = f y → x = y) (a b : α) : PyData.eqv (f a) (f b) = decide (a = b) := by
  by_cases z : a = b
  · subst z; rw [decide_eq_true rfl]; exact (eqv_iff _ _ (hp _) (hp _)).mpr rfl
  · rw [decide_eq_false z]
    cases q : PyData.eqv (f a) (f b) with
    | false => rfl
    | true => exact absurd (inj _ _ ((eqv_iff _ _ (hp _) (hp _)).mp q)) z
mutual
theorem lay_pl : ∀ d : PyData, pl d = true → d.canLay0 = true
  | .none, _ => rfl
  | .int _, _ => rfl
  | .str _, h => by simpa [pl] using h
  | .bool _, h => by simp [pl] at h
  | .dict _, h => by simp [pl] at h
  | .list ds, h => by simp only [PyData.canLay0]; exact layA_pl ds (by simpa [pl] using h)
  | .tuple ds, h => by simp only [PyData.canLay0]; exact layA_pl ds (by simpa [pl] using h)
theorem layA_pl : ∀ ds : List PyData, plA ds = true → PyData.canLayAll0 ds = true
  | [], _ => by simp [PyData.canLayAll0]
  | d :: ds, h => by
    rw [plA, Bool.and_eq_true] at h
    simp [PyData.canLayAll0, lay_pl d h.1, layA_pl ds h.2]
end
theorem sh_pl {d : PyData} (h : pl d = true) (k : d.depth ≤ 64) : SeqAt.shaped d = true := by
  show (d.canLay0 && decide (d.depth ≤ 64)) = true
  rw [Bool.and_eq_true]
  exact ⟨lay_pl d h, decide_eq_true k⟩
theorem depthA_le {n : Nat} : ∀ {ds : List PyData}, (∀ d ∈ ds, d.depth ≤ n) → PyData.depthAll ds ≤ n
  | [], _ => by simp [PyData.depthAll]
  | d :: ds, h => by
    have h1 := h d List.mem_cons_self
    have h2 := depthA_le fun x hx => h x (List.mem_cons_of_mem _ hx)
    simp only [PyData.depthAll]; omega
theorem depth_list {n : Nat} {ds : List PyData} (h : ∀ d ∈ ds, d.depth ≤ n) : (PyData.list ds).depth ≤ n + 1 := by
  have := depthA_le h
  simp only [PyData.depth]; omega
theorem depth_tup {n : Nat} {ds : List PyData} (h : ∀ d ∈ ds, d.depth ≤ n) : (PyData.tuple ds).depth ≤ n + 1 := by
  have := depthA_le h
  simp only [PyData.depth]; omega
theorem depth_ints (l : List Int) : (PyData.list (l.map PyData.int)).depth ≤ 64 := by
  have := depth_list (n := 1) (ds := l.map PyData.int) fun d hd => by
    obtain ⟨x, _, rfl⟩ := List.mem_map.mp hd
    simp [PyData.depth]
  omega
theorem pl_ints (l : List Int) : pl (.list (l.map PyData.int)) = true := by
  show plA _ = true
  exact plA_map fun x => rfl
theorem sh_ints (l : List Int) : SeqAt.shaped (.list (l.map PyData.int)) = true := sh_pl (pl_ints l) (depth_ints l)
/-! ### what is new is none of what changes -/
def Al (W : Addr → Prop) (H : Hp) : Prop := ∀ x, H x = none → ¬ W x
theorem Al.same {W : Addr → Prop} {H H' : Hp} (a : Al W H) (k : Keep Nil H H') : Al W H' := fun x hx => a x (keep_none k hx)
theorem Al.nil {H : Hp} : Al Nil H := fun _ _ z => z
theorem Al.or {W V : Addr → Prop} {H : Hp} (a : Al W H) (b : Al V H) : Al (fun x => W x ∨ V x) H := fun x hx z => z.elim (a x hx) (b x hx)
theorem Al.one {W : Addr → Prop} {H : Hp} {p : Addr} {o : HO} (a : Al W H) (h : H p = some o) : Al (fun x => W x ∨ x = p) H := fun x hx z => z.elim (a x hx) fun e => by rw [e, h] at hx; cases hx
section
variable {W : Addr → Prop} {H : Hp} {K : PySem.W.Frag} {P : Program} {w : World} {Q : VK} {x y : V} {d e : PyData}
theorem v_addV {ds es : List PyData} (al : Al W H) (h1 : Rp W H x (.list ds)) (h2 : Rp W H y (.list es)) (few : ds.length + es.length ≤ 100000) (k : ∀ (p : Addr) (H' : Hp), Keep Nil H H' → Rp W H' (.ref p) (.list (ds ++ es)) → Q (.ref p) H') : bAdd K x y H Q := by
  obtain ⟨a, xs, rfl, e1, n1, r1⟩ := h1.list_
  obtain ⟨b, ys, rfl, e2, n2, r2⟩ := h2.list_
  refine v_addL e1 e2 (few2 (by rw [r1.len, r2.len]; exact few)) fun p hp => k p _ (Keep.alloc hp) ?_
  have kk : Keep Nil H (upd H p (.lst (xs ++ ys))) := Keep.alloc hp
  exact .lst upd_same (al p hp) ((r1.same kk).app (r2.same kk))
theorem v_eqV (h1 : Rp W H x d) (h2 : Rp W H y e) (s1 : SeqAt.shaped d = true) (s2 : SeqAt.shaped e = true) (k : Q (.bl (PyData.eqv d e)) H) : cEq K x y H Q := .inr ⟨d, e, Rp.dp _ _ h1, Rp.dp _ _ h2, s1, s2, k⟩
theorem v_neV (h1 : Rp W H x d) (h2 : Rp W H y e) (s1 : SeqAt.shaped d = true) (s2 : SeqAt.shaped e = true) (k : Q (.bl (!PyData.eqv d e)) H) : cNe K x y H Q := .inr ⟨d, e, Rp.dp _ _ h1, Rp.dp _ _ h2, s1, s2, k⟩
theorem v_inV {ds : List PyData} (h1 : Rp W H x d) (h2 : Rp W H y (.list ds)) (s1 : SeqAt.shaped d = true) (s2 : SeqAt.shaped (.list ds) = true) (k : Q (.bl (ds.any fun z => PyData.eqv z d)) H) : cIn P w K x y H Q := .inr (.inl ⟨d, ds, Rp.dp _ _ h1, Rp.dp _ _ h2, s1, s2, k⟩)
theorem v_ninV {ds : List PyData} (h1 : Rp W H x d) (h2 : Rp W H y (.list ds)) (s1 : SeqAt.shaped d = true) (s2 : SeqAt.shaped (.list ds) = true) (k : Q (.bl (!ds.any fun z => PyData.eqv z d)) H) : cNotIn P w K x y H Q := .inr (.inl ⟨d, ds, Rp.dp _ _ h1, Rp.dp _ _ h2, s1, s2, k⟩)
end
/-! ### len(set(..)) -/
def kLenS (w : World) : List V → Hp → VK → Prop := fun xs H Q => ∃ (a : Addr) (S : Int → Bool) (n : Nat), xs = [.ref a] ∧ H a = some (SetO w a S n) ∧ ∀ es : List Int, es.Nodup → (∀ z : Int, S z = true ↔ z ∈ es) → es.length = n → Q (.int n) H
theorem k_lenS {X : Cx} : CallR X (.builtin "len") (kLenS X.w) := by
  intro pins s σ H xs us Q I r h
  obtain ⟨a, S, n, rfl, ha, q⟩ := h
  obtain ⟨o, es, ep, t, ho, hex, hd, good, nd, mem, few, fits, num, _⟩ := setO_get I ha
  rw [Vals.ref1 r]
  have hs : scanBound = 4096 := rfl
  refine call_len_set ho hex hd fits (by omega) ?_
  rw [num]
  exact ⟨.int n, H, (I.tok _).tok _, ⟨_, rfl⟩, q (es.toList.map keyOf) nd mem (by rw [List.length_map, Array.length_toList]; exact num)⟩
theorem v_lenS {w : World} {a : Addr} {ns : List Int} {n : Nat} {H : Hp} {Q : VK} (h : H a = some (SetO w a (fun j => decide (j ∈ ns)) n)) (k : ∀ es : List Int, es.Nodup → (∀ z : Int, z ∈ es ↔ z ∈ ns) → Q (.int es.length) H) : kLenS w [.ref a] H Q :=
  ⟨a, _, n, rfl, h, fun es nd m l => l ▸ k es nd fun z => by rw [← m z, decide_eq_true_iff]⟩
/-! ### walks -/
/-- the walk J yields the data ds, outside of W, whatever of N changes -/
structure Yv (N W : Addr → Prop) (J : It) (H0 : Hp) (ds : List PyData) : Prop where
  go : ∀ (H : Hp) (i : Nat), Keep N H0 H → i < ds.length → J.go i H
  stop : ∀ (H : Hp), Keep N H0 H → J.stop ds.length H
  yld : ∀ (H H' : Hp) (i : Nat) (x : V) (d : PyData), Keep N H0 H → ds[i]? = some d → J.yld i H x H' → Keep Nil H H' ∧ Rp W H' x d
theorem yv_list {N W : Addr → Prop} {K : PySem.W.Frag} {H : Hp} {a : Addr} {xs : List V} {ds : List PyData} (h : H a = some (.lst xs)) (n : ¬ N a) (r : RpA W H xs ds) (s : ∀ x, N x → W x) : Yv N W (Itl K a) H ds := by
  refine ⟨fun H1 i k hi => ⟨xs, xs[i]'(by rw [r.len]; exact hi), SqL.of (k _ _ n h), List.getElem?_eq_getElem _⟩, fun H1 k => ⟨xs, SqL.of (k _ _ n h), by rw [r.len]; exact Nat.le_refl _⟩, fun H1 H2 i x d k e y => ?_⟩
  obtain ⟨rfl, y⟩ := y
  obtain ⟨v, e1, e2⟩ := r.at_ e
  have := y xs (SqL.of (k _ _ n h))
  rw [e1] at this; cases this
  exact ⟨Keep.refl, e2.keep (k.mono s)⟩
theorem yv_ints {N W : Addr → Prop} {K : PySem.W.Frag} {H : Hp} {a : Addr} {l : List Int} (h : H a = some (.lst (l.map V.int))) (n : ¬ N a) : Yv N W (Itl K a) H (l.map PyData.int) := by
  have y := yv_list (N := N) (W := N) (K := K) h n (RpA.ints l) (fun _ z => z)
  refine ⟨y.go, y.stop, fun H1 H2 i x d k e q => ?_⟩
  obtain ⟨k2, r⟩ := y.yld H1 H2 i x d k e q
  rw [List.getElem?_map] at e
  obtain ⟨z, _, rfl⟩ := Option.map_eq_some_iff.mp e
  rw [r.int_]
  exact ⟨k2, .int _⟩
theorem yv_tup {N W : Addr → Prop} {K : PySem.W.Frag} {H : Hp} {a : Addr} {xs : List V} {ds : List PyData} (h : H a = some (.tup xs)) (n : ¬ N a) (r : RpA W H xs ds) (s : ∀ x, N x → W x) : Yv N W (Itt K a) H ds := by
  refine ⟨fun H1 i k hi => ⟨xs, xs[i]'(by rw [r.len]; exact hi), SqT.of (k _ _ n h), List.getElem?_eq_getElem _⟩, fun H1 k => ⟨xs, SqT.of (k _ _ n h), by rw [r.len]; exact Nat.le_refl _⟩, fun H1 H2 i x d k e y => ?_⟩
  obtain ⟨rfl, y⟩ := y
  obtain ⟨v, e1, e2⟩ := r.at_ e
  have := y xs (SqT.of (k _ _ n h))
  rw [e1] at this; cases this
  exact ⟨Keep.refl, e2.keep (k.mono s)⟩
def rng (lo : Int) (n : Nat) : List PyData := (List.range n).map fun i => PyData.int (lo + (i : Nat))
theorem rng_len (lo : Int) (n : Nat) : (rng lo n).length = n := by unfold rng; rw [List.length_map, List.length_range]
theorem rng_get {lo : Int} {n i : Nat} {d : PyData} (h : (rng lo n)[i]? = some d) : i < n ∧ d = .int (lo + (i : Nat)) := by
  have hi : i < n := by have := (List.getElem?_eq_some_iff.mp h).1; rw [rng_len] at this; exact this
  unfold rng at h
  rw [List.getElem?_map, List.getElem?_range hi] at h
  exact ⟨hi, by simpa using h.symm⟩
theorem yv_rng {N W : Addr → Prop} {H : Hp} {lo : Int} {n : Nat} : Yv N W (Itr lo n) H (rng lo n) := by
  refine ⟨fun H1 i k hi => by rw [rng_len] at hi; exact hi, fun H1 k => by rw [rng_len]; exact Nat.le_refl _, fun H1 H2 i x d k e y => ?_⟩
  obtain ⟨rfl, rfl⟩ := y
  obtain ⟨_, rfl⟩ := rng_get e
  exact ⟨Keep.refl, .int _⟩
def signs (x : Str) : List PyData := x.cps.toList.map fun c => PyData.str ⟨#[c]⟩
theorem yv_str {N W : Addr → Prop} {H : Hp} {x : Str} : Yv N W (Its x) H (signs x) := by
  have len : (signs x).length = x.cps.size := by unfold signs; rw [List.length_map, Array.length_toList]
  refine ⟨fun H1 i k hi => by rw [len] at hi; exact hi, fun H1 k => by rw [len]; exact Nat.le_refl _, fun H1 H2 i v d k e y => ?_⟩
  obtain ⟨rfl, c, hc, rfl⟩ := y
  unfold signs at e
  rw [List.getElem?_map, Array.getElem?_toList, hc] at e
  cases e
  exact ⟨Keep.refl, .str _⟩
section
variable {J : It} {g : TG} {tt : TT} {te : TE} {vs : List Nat} {σ : L2.St} {H : Hp} {Q : VK}
/-- a comprehension that reads and makes new things alone -/
theorem lcT {α : Type} (W : Addr → Prop) (enc : α → PyData) (l : List α) (p : α → Bool) (f : α → PyData) (al : Al W H) (few : l.length < sizeLine) (Y : ∀ D, H D = none → Yv Nil (fun x => W x ∨ x = D) J H (l.map enc))
    (body : ∀ (D : Addr) (i : Nat) (x : V) (d : α) (H1 : Hp) (R : VK) (N : Hp → Prop), H D = none → l[i]? = some d → Keep Nil H H1 → Al (fun x => W x ∨ x = D) H1 → Rp (fun x => W x ∨ x = D) H1 x (enc d) →
      (∀ y H4, Keep Nil H1 H4 → Rp (fun x => W x ∨ x = D) H4 y (f d) → p d = true → R y H4) → (∀ H3, Keep Nil H1 H3 → p d = false → N H3) →
      g x (wipe σ vs) H1 fun σ2 H2 => wipe σ2 vs = wipe σ vs ∧ tt σ2 H2 fun b H3 => if b = true then te σ2 H3 R else N H3)
    (cont : ∀ (D : Addr) (H' : Hp), H D = none → Keep Nil H H' → Rp W H' (.ref D) (.list ((l.filter p).map f)) → Q (.ref D) H') : kLc J g tt te vs σ H Q := by
  intro D hD
  refine ⟨fun i m H' => m = l.length - i ∧ i ≤ l.length ∧ ∃ us, H' D = some (.lst us) ∧ RpA (fun x => W x ∨ x = D) H' us (((l.take i).filter p).map f) ∧ Keep Nil H H', ⟨_, rfl, Nat.zero_le _, [], upd_same, by simp; exact .nil, Keep.alloc hD⟩, ?_⟩
  rintro i m H1 ⟨rfl, hi, us, eD, ru, k1⟩
  have nD : ¬ W D := al D hD
  by_cases lt : i < l.length
  · refine .inr ⟨(Y D hD).go H1 i k1 (by rw [List.length_map]; exact lt), fun H' => ∃ us, H' D = some (.lst us) ∧ RpA (fun x => W x ∨ x = D) H' us (((l.take (i + 1)).filter p).map f) ∧ Keep Nil H H', fun H' h => ⟨l.length - (i + 1), by omega, rfl, lt, h⟩, fun x H2 hy => ?_⟩
    have hd := List.getElem?_eq_getElem lt
    obtain ⟨k2, rx⟩ := (Y D hD).yld H1 H2 i x (enc l[i]) k1 (by rw [List.getElem?_map, hd]; rfl) hy
    have k12 := k1.trans k2
    have eD2 := k2.get (fun z => z) eD
    have tk : l.take (i + 1) = l.take i ++ [l[i]] := by rw [List.take_succ, hd]; rfl
    refine body D i x _ H2 _ _ hD hd k12 ((al.same k12).one eD2) rx (fun y H5 k5 r5 hp => ?_) fun H4 k4 hp => ?_
    · have eD5 := k5.get (fun z => z) eD2
      have ru5 := ru.same (k2.trans k5)
      have kD : Keep (fun x => W x ∨ x = D) H5 (upd H5 D (.lst (us ++ [y]))) := Keep.refl.set (.inr rfl)
      refine ⟨us, eD5, ?_, us ++ [y], upd_same, ?_, (k12.trans k5).setN hD⟩
      · have h1 := ru.len
        have h2 := List.length_filter_le p (l.take i)
        rw [List.length_map] at h1
        rw [List.length_take] at h2
        omega
      · rw [tk, List.filter_append, List.map_append]
        have : [l[i]].filter p = [l[i]] := by simp [hp]
        rw [this]
        exact (ru5.keep kD).snoc (r5.keep kD)
    · refine ⟨us, k4.get (fun z => z) eD2, ?_, k12.trans k4⟩
      rw [tk, List.filter_append, List.map_append]
      have : [l[i]].filter p = [] := by simp [hp]
      rw [this, List.map_nil, List.append_nil]
      exact ru.same (k2.trans k4)
  · have e : i = l.length := by omega
    subst e
    rw [List.take_of_length_le (Nat.le_refl _)] at ru
    have st := (Y D hD).stop H1 k1
    rw [List.length_map] at st
    exact .inl ⟨st, cont D H1 hD k1 (.lst eD nD (ru.sub fun x h => .inl h))⟩
theorem filter_tt {α : Type} (l : List α) : (l.filter fun _ => true) = l := by simp
/-- a comprehension that changes W, by what is told of S; without a test -/
theorem lcS (W : Addr → Prop) (ds : List PyData) (S : Nat → List PyData → Hp → Prop) (few : ds.length < sizeLine) (al : Al W H) (Y : ∀ D, H D = none → Yv W (fun x => W x ∨ x = D) J H ds)
    (als : ∀ i out H1, S i out H1 → Al W H1)
    (S0 : S 0 [] H) (stab : ∀ D i out H1 H2, H D = none → Keep (fun x => x = D) H1 H2 → (∀ o, H1 D = some o → ∃ l, o = .lst l) → S i out H1 → S i out H2)
    (body : ∀ (D : Addr) (i : Nat) (x : V) (d : PyData) (out : List PyData) (H1 : Hp) (R : VK) (N : Hp → Prop), H D = none → ds[i]? = some d → out.length = i → Keep W H H1 → Al (fun x => W x ∨ x = D) H1 → Rp (fun x => W x ∨ x = D) H1 x d → S i out H1 →
      (∀ y H4 e, Keep W H1 H4 → Rp (fun x => W x ∨ x = D) H4 y e → S (i + 1) (out ++ [e]) H4 → R y H4) →
      g x (wipe σ vs) H1 fun σ2 H2 => wipe σ2 vs = wipe σ vs ∧ tYes σ2 H2 fun b H3 => if b = true then te σ2 H3 R else N H3)
    (cont : ∀ (D : Addr) (H' : Hp) (out : List PyData), H D = none → out.length = ds.length → Keep W H H' → S ds.length out H' → Rp W H' (.ref D) (.list out) → Q (.ref D) H') : kLc J g tYes te vs σ H Q := by
  intro D hD
  have nD : ¬ W D := al D hD
  refine ⟨fun i m H' => m = ds.length - i ∧ i ≤ ds.length ∧ ∃ us out, H' D = some (.lst us) ∧ out.length = i ∧ RpA (fun x => W x ∨ x = D) H' us out ∧ Keep W H H' ∧ S i out H',
    ⟨_, rfl, Nat.zero_le _, [], [], upd_same, rfl, .nil, Keep.alloc hD, stab D 0 [] H _ hD (Keep.refl.set rfl) (fun o e => by rw [hD] at e; cases e) S0⟩, ?_⟩
  rintro i m H1 ⟨rfl, hi, us, out, eD, lo, ru, k1, s1⟩
  by_cases lt : i < ds.length
  · refine .inr ⟨(Y D hD).go H1 i k1 lt, fun H' => ∃ us out, H' D = some (.lst us) ∧ out.length = i + 1 ∧ RpA (fun x => W x ∨ x = D) H' us out ∧ Keep W H H' ∧ S (i + 1) out H', fun H' h => ⟨ds.length - (i + 1), by omega, rfl, lt, h⟩, fun x H2 hy => ?_⟩
    have hd := List.getElem?_eq_getElem lt
    obtain ⟨k2, rx⟩ := (Y D hD).yld H1 H2 i x _ k1 hd hy
    have k12 := k1.trans k2.weak
    have eD2 := k2.get (fun z => z) eD
    have s2 := stab D i out H1 H2 hD k2.weak (fun o e => by rw [eD] at e; exact ⟨_, (Option.some.inj e).symm⟩) s1
    refine body D i x _ out H2 _ _ hD hd lo k12 ((als _ _ _ s2).one eD2) rx s2 fun y H5 e k5 r5 s5 => ?_
    have eD5 := k5 _ _ nD eD2
    have ru2 := ru.same k2
    have kD : Keep (fun x => x = D) H5 (upd H5 D (.lst (us ++ [y]))) := Keep.refl.set rfl
    have kW : Keep (fun x => W x ∨ x = D) H5 (upd H5 D (.lst (us ++ [y]))) := kD.mono fun _ h => .inr h
    refine ⟨us, eD5, ?_, us ++ [y], out ++ [e], upd_same, by rw [List.length_append, lo]; rfl, ?_, (k12.trans k5).setN hD, stab D _ _ _ _ hD kD (fun o q => by rw [eD5] at q; exact ⟨_, (Option.some.inj q).symm⟩) s5⟩
    · have h1 := ru.len
      omega
    · exact ((ru2.keep (k5.mono fun _ h => .inl h)).keep kW).snoc (r5.keep kW)
  · have e : i = ds.length := by omega
    subst e
    exact .inl ⟨(Y D hD).stop H1 k1, cont D H1 out hD lo k1 s1 (.lst eD nD (ru.sub fun x h => .inl h))⟩
end
end Hm

/-! F6: dicts keyed by pairs of ints: sorted(d). -/
namespace Hm
open PySem PySem.Spec PyProof.Rows L2
abbrev TX := List L2.Key × V
def pk (p : Int × Int) : List L2.Key := [Sum.inl p.1, Sum.inl p.2]
theorem pk_inj {p q : Int × Int} (h : pk p = pk q) : p = q := by
  unfold pk at h
  injection h with h1 h2
  injection h2 with h2 _
  injection h1 with h1
  injection h2 with h2
  exact Prod.ext h1 h2
/-- a list of pairs, sorted as Python sorts tuples -/
def RisP (l : List (Int × Int)) : Prop := l.Pairwise fun p q => SrtO.lexB q p = false
theorem risP_eq {l m : List (Int × Int)} (p : l.Perm m) (h1 : RisP l) (h2 : RisP m) : l = m :=
  List.Perm.eq_of_pairwise (fun a b _ _ h h' => by
    have h := SrtO.lexB_no.mp h
    have h' := SrtO.lexB_no.mp h'
    exact Prod.ext (by omega) (by omega)) h1 h2 p
def kH (H : Hp) (v : Value) : Int × Int := match v with
  | .ref a => match H a with
    | some (.tup [.int i, .int j]) => (i, j)
    | _ => (0, 0)
  | _ => (0, 0)
def adr (v : Value) : Addr := match v with
  | .ref a => a
  | _ => default
def PrT (H : Hp) (t : Addr) (p : Int × Int) : Prop := H t = some (.tup [.int p.1, .int p.2])
def uSortDictP : List V → Hp → VK → Prop := fun xs H Q => ∃ (a : Addr) (kvs : List TX) (ks : List (Int × Int)), xs = [.ref a] ∧ H a = some (.dT kvs) ∧ kvs.map (·.1) = ks.map pk ∧
  ∀ (bs : List Addr) (ys : List (Int × Int)) (p : Addr), ys.Perm ks → RisP ys → Paired (PrT H) bs ys → H p = none → Q (.ref p) (upd H p (.lst (bs.map V.ref)))
section
variable {X : Cx}
theorem cu_sortDictP (hcalm : X.calm = true) : CallR X (.builtin "sorted") uSortDictP := by
  intro pins s σ H xs us Q I r q
  obtain ⟨a, kvs, ks, rfl, hd, hks, q⟩ := q
  rw [Vals.ref1 r]
  obtain ⟨z, hs, kr, pr, o, es, ep, ho, hx, hdt, he, hn⟩ := (show ObjOk X.prog X.w H s.heap a (.dT kvs) from (Rd.of hd).ok I.hok)
  have l1 : es.size = kr.length := size_of_entries he
  have l2 : kvs.length = kr.length := Paired.length pr
  have hkr : kr.map (fun x => kH H (.ref x.2.1)) = ks ∧ ∀ x ∈ kr, H x.2.1 = some (.tup [.int (kH H (.ref x.2.1)).1, .int (kH H (.ref x.2.1)).2]) := by
    clear q hn he l1 l2 hd z
    induction pr generalizing ks with
    | nil =>
      cases ks with
      | nil => exact ⟨rfl, fun _ h => nomatch h⟩
      | cons _ _ => simp at hks
    | @cons p q ps qs h t ih =>
      cases ks with
      | nil => simp at hks
      | cons k ks =>
        rw [List.map_cons, List.map_cons] at hks
        injection hks with e1 e2
        obtain ⟨i1, i2⟩ := ih ks e2
        have hq : H q.2.1 = some (.tup [.int k.1, .int k.2]) := by rw [h.2.1, e1]; rfl
        have ek : kH H (.ref q.2.1) = k := by unfold kH; simp only [hq]
        refine ⟨by rw [List.map_cons, i1, ek], fun x hx => ?_⟩
        rcases List.mem_cons.mp hx with rfl | hx
        · rw [ek]; exact hq
        · exact i2 x hx
  obtain ⟨hk1, hk2⟩ := hkr
  refine Calls.call_function_entry kind_sorted plain_sorted entry_sorted (args_sorted1 _) ?_
  unfold Builtin.«sorted»
  refine wpAny_bind (m := checkCount "sorted" 1 1 _) (wpAny_pure ?_)
  refine wpAny_bind (PySem.W.kdu_collect (A := X.A.in1) (kdl_raw hs hx hdt) (I.ok.hd hcalm) ho (by omega) fun h' tk acc hk hacc => ?_)
  have ea : acc.toList = kr.map fun x => Value.ref x.2.1 := by
    have hl : acc.toList.length = kr.length := by rw [Array.length_toList, hacc.1]; exact l1
    apply List.ext_getElem?
    intro j
    rw [List.getElem?_map]
    cases hj : acc.toList[j]? with
    | none =>
      have h1 := List.getElem?_eq_none_iff.mp hj
      rw [List.getElem?_eq_none (by omega)]
      all_goals rfl
    | some v =>
      obtain ⟨en, hen, hv⟩ := hacc.2 j v (by rw [← Array.getElem?_toList]; exact hj)
      have qe := entry_at he j
      rw [hen] at qe
      cases hb : kr[j]? with
      | none =>
        rw [hb] at qe
        exact nomatch (show some en = none from qe)
      | some b =>
        rw [hb] at qe
        have e2 : en = entryOfKey (tupleKind (mixKind X.prog X.w)) b := Option.some.inj qe
        rw [hv, e2]
        all_goals rfl
  have I1 : Inv X pins σ H { s with heap := h', toks := tk } := I.kept hk
  have hal2 : acc.toList.length ≤ sizeLine := by rw [ea, List.length_map]; omega
  refine wpAny_bind (wpAny_newList ?_ hal2)
  have at1 : (h'.push (seqObj "list" acc.toList.toArray 0)).get? h'.objs.size = some (seqObj "list" acc.toList.toArray 0) := Heap.get?_push_size _ rfl
  show wpAny _ _ _ _ _ { s with heap := h'.push (seqObj "list" acc.toList.toArray 0), toks := tk }
  have isp : ∀ v ∈ acc.toList, Srt.IsPair (h'.push (seqObj "list" acc.toList.toArray 0)) v (kH H v).1 (kH H v).2 := fun v hv => by
    rw [ea] at hv
    obtain ⟨x, hx, rfl⟩ := List.mem_map.mp hv
    obtain ⟨_, its2, r2, o, ho, hc, n, hd⟩ := I1.hok _ _ (hk2 x hx)
    obtain ⟨u1, u2, rfl, ri, rj⟩ := vals2 r2
    obtain ⟨t1, rfl⟩ := ri
    obtain ⟨t2, rfl⟩ := rj
    exact ⟨x.2.1, o, t1, t2, n, rfl, Heap.get?_push_of_some _ ho, hc, hd⟩
  refine wpAny_bind (wpAny_holding (wpAny_call_entry slot_list_sort ⟨_, at1, rfl⟩ entry_list_sort
    (SrtO.list_sort_ord (SrtO.swo_lex (kH H)) (s := { s with heap := h'.push (seqObj "list" acc.toList.toArray 0), toks := tk }) at1 hal2 (fun h2 => SrtO.pairs_sortableO (by omega) isp fun o e => ?_) fun out z1 z2 => ⟨_, rfl, ?_⟩) (args_list_sort _)))
  · have e' : some o = some (seqObj "list" acc.toList.toArray 0) := e.symm.trans at1
    cases e'
    intro c
    exact absurd (Value.type.inj c) (by decide)
  obtain ⟨c, hc⟩ := sortedHeap_at (vs := acc.toList) (out := out.toArray) at1
  have outr : ∀ v ∈ out, ∃ x ∈ kr, v = Value.ref x.2.1 := fun v hv => by
    have := z2.perm.mem_iff.mp hv
    rw [ea] at this
    obtain ⟨x, hx, rfl⟩ := List.mem_map.mp this
    exact ⟨x, hx, rfl⟩
  have eo : out.map (fun v => Value.ref (adr v)) = out := by
    have : out.map (fun v => Value.ref (adr v)) = out.map id := List.map_congr_left fun v hv => by
      obtain ⟨x, _, rfl⟩ := outr v hv
      rfl
    rw [this, List.map_id]
  have hlen : ((out.map adr).map V.ref).length ≤ sizeLine := by
    rw [List.length_map, List.length_map, z2.perm.length_eq]; exact hal2
  have rv : Vals ((out.map adr).map V.ref) out := by
    have := vals_refs (out.map adr)
    rw [List.map_map (f := adr) (g := Value.ref), show (Value.ref ∘ adr) = fun v => Value.ref (adr v) from rfl, eo] at this
    exact this
  have pys : (out.map (kH H)).Perm ks := by
    have := z2.perm.map (kH H)
    rw [ea, List.map_map] at this
    rw [← hk1]; exact this
  have pp : Paired (PrT H) (out.map adr) (out.map (kH H)) := by
    clear pys rv hlen eo hc z1 z2 q
    induction out with
    | nil => exact .nil
    | cons v l ih =>
      refine .cons ?_ (ih fun v hv => outr v (List.mem_cons_of_mem _ hv))
      obtain ⟨x, hx, rfl⟩ := outr v List.mem_cons_self
      exact hk2 x hx
  refine wpAny_pure ⟨_, rfl, .ref h'.objs.size, upd H h'.objs.size (.lst ((out.map adr).map V.ref)), I1.laid (t' := tk) (fun b u e => ?_) (Nat.le_refl _)
    (show ObjOk X.prog X.w _ _ _ (.lst ((out.map adr).map V.ref)) from ⟨hlen, out, c, rv, hc⟩), rfl, q _ _ _ pys (List.pairwise_map.mpr z1) pp (I1.hok.fresh (Nat.le_refl _))⟩
  have hb : b < h'.objs.size := Heap.lt_size e
  rw [sortedHeap_old (Nat.ne_of_lt hb) (by rw [size_push']; exact Nat.lt_succ_of_lt hb)]
  exact Heap.get?_push_of_some _ e
end
theorem v_sortedP {a : Addr} {kvs : List TX} {ks : List (Int × Int)} {H : Hp} {Q : VK} (h : H a = some (.dT kvs)) (e : kvs.map (·.1) = ks.map pk) (k : ∀ (bs : List Addr) (ys : List (Int × Int)) (p : Addr), ys.Perm ks → RisP ys → Paired (PrT H) bs ys → H p = none → Q (.ref p) (upd H p (.lst (bs.map V.ref)))) : uSortDictP [.ref a] H Q :=
  ⟨a, kvs, ks, rfl, h, e, k⟩
/-- {k: v} with one flat tuple for a key -/
def uDispT (tk tv : TE) : TE := fun σ H Q => ∀ p, H p = none → tk σ (upd H p (.dT [])) fun x H1 => tv σ H1 fun y H2 =>
  ∃ (k : List L2.Key) (b : Addr), x = .ref b ∧ H2 p = some (.dT []) ∧ H2 b = some (.tup (k.map kV)) ∧ Q (.ref p) (upd H2 p (.dT [(k, y)]))
theorem pe_dispT {X : Cx} {ke ve : Expr} {tk tv : TE} {pos : Pos} (hu : X.A.units + 64 < cLine) (hk : PE X ke tk) (hv : PE X ve tv)
    (shape : (evalEachOpt [some ke] X.env).zip ((evalEach [ve] X.env).map fun v => do let x ← v; standAt pos; pure x) = [(eval ke X.env, (do let x ← eval ve X.env; standAt pos; pure x))].map fun p => (some p.1, p.2) := by rfl) :
    PE X (.Dict [some ke] [ve] pos) (uDispT tk tv) := by
  refine ⟨fun pins s σ H Q I h => ?_⟩
  have hn := I.hok.fresh (Nat.le_refl s.heap.objs.size)
  have I1 := I.laid (a := s.heap.objs.size) (o := .dT []) (h' := s.heap.push { cls := .type "dict", data := .dict #[] }) (t' := s.toks) (fun _ _ q => Heap.get?_push_of_some _ q) (Nat.le_refl _) (dt_empty s.heap I.big)
  have h1 : PPs X pos [some ke] [ve] [(tk, tv)] := pps_cons hk hv pps_nil
  have trees : pairTrees [some ke] [ve] X.env pos = [(eval ke X.env, (do let x ← eval ve X.env; standAt pos; pure x))] := by rfl
  have run := h1.run pins _ σ _ (fun ps H2 => match ps with
    | [(x, y)] => ∃ (k : List L2.Key) (b : Addr), x = .ref b ∧ H2 s.heap.objs.size = some (.dT []) ∧ H2 b = some (.tup (k.map kV)) ∧ Q (.ref s.heap.objs.size) (upd H2 s.heap.objs.size (.dT [(k, y)]))
    | _ => False) I1 (h _ hn)
  rw [trees] at run
  rw [arm_eval_Dict, shape, dictDisplay_pairs _ (by simp) (by simp)]
  refine wpAny_bind (wpAny_standAt (wpAny_bind (wpAny_subDictH (knd := tupleKind (mixKind X.prog X.w)) (show X.A.units < cLine by omega) (by simp) (thn run fun vs s2 hh => ?_))))
  obtain ⟨ps, H2, I2, rel, q⟩ := hh
  split at q
  · rename_i x y
    obtain ⟨k, b, rfl, e, eb, q⟩ := q
    cases rel with
    | @cons p1 q1 ps qs rr t =>
    cases t
    obtain ⟨u1, u2⟩ := q1
    obtain ⟨r1, r2⟩ := rr
    cases (show u1 = Value.ref b from r1)
    obtain ⟨z, hd, xs, rr, D⟩ := dt_of I2.hok e
    cases rr
    refine ⟨[(k, b, u2)], ⟨rfl, rfl, key_of I2.hok eb, True.intro⟩, D, fun h' tk' D' hs => wpAny_pure ⟨.ref s.heap.objs.size, _, ?_, rfl, q⟩⟩
    obtain ⟨q', es, ep, hq, h2, h3, h4, _, h5⟩ := id D'
    refine d_write I2 (by rw [e]; exact True.intro) hs ⟨q', hq⟩ ⟨by rw [sizeLine_eq]; exact (by decide : (1 : Nat) ≤ 16777216), hd, [(k, b, u2)], .cons ⟨rfl, ?_, r2⟩ .nil, q', es, ep, hq, h2, h3, h4, h5⟩
    show upd H2 _ _ b = _
    rw [upd_ne (ne_of eb e (fun z => nomatch z))]
    exact eb
  · exact q.elim
/-! ### loops that change one slot -/
section
variable {K : PySem.W.Frag} {a : Addr} {tb : TS} {D : Ends} {σ : L2.St} {H : Hp} {i : Nat}
theorem forI {l : List Int} (Pv : Nat → Hp → Prop) (hl : ∀ j H', Pv j H' → H' a = some (.lst (l.map V.int))) (o0 : Option V) (e0 : σ.set i o0 = σ) (h0 : Pv 0 H)
    (hs : ∀ j z H', l[j]? = some z → Pv j H' → tb { D with nx := fun s h => ∃ o, s = σ.set i o ∧ Pv (j + 1) h, ct := fun s h => ∃ o, s = σ.set i o ∧ Pv (j + 1) h, bk := D.nx } (σ.set i (some (.int z))) H')
    (hd : ∀ o H', Pv l.length H' → D.nx (σ.set i o) H') : kFor (Itl K a) (gName i) tb D σ H := by
  refine for_list (xs := l.map V.int) (fun j s H' => ∃ o, s = σ.set i o ∧ Pv j H') ⟨o0, e0.symm, h0⟩ (fun j s H' _ ⟨_, _, h⟩ => SqL.of (hl j H' h)) ?_ ?_
  · rintro j x s H' hj ⟨o, rfl, h⟩
    rw [List.getElem?_map] at hj
    obtain ⟨z, hz, rfl⟩ := Option.map_eq_some_iff.mp hj
    refine r_gname ?_
    rw [List.set_set]
    exact hs j z H' hz h
  · rintro s H' ⟨o, rfl, h⟩
    rw [List.length_map] at h
    exact hd o H' h
end
theorem forI2 {K : PySem.W.Frag} {a : Addr} {tb : TS} {D : Ends} {σ : L2.St} {H : Hp} {i k : Nat} {l : List Int} (Pv : Nat → Hp → Prop) (hl : ∀ j H', Pv j H' → H' a = some (.lst (l.map V.int))) (o0 p0 : Option V) (e0 : (σ.set i o0).set k p0 = σ) (hik : i ≠ k) (h0 : Pv 0 H)
    (hs : ∀ j z H' (p : Option V), l[j]? = some z → Pv j H' → tb { D with nx := fun s h => ∃ o p, s = (σ.set i o).set k p ∧ Pv (j + 1) h, ct := fun s h => ∃ o p, s = (σ.set i o).set k p ∧ Pv (j + 1) h, bk := D.nx } ((σ.set i (some (.int z))).set k p) H')
    (hd : ∀ o p H', Pv l.length H' → D.nx ((σ.set i o).set k p) H') : kFor (Itl K a) (gName i) tb D σ H := by
  refine for_list (xs := l.map V.int) (fun j s H' => ∃ o p, s = (σ.set i o).set k p ∧ Pv j H') ⟨o0, p0, e0.symm, h0⟩ (fun j s H' _ ⟨_, _, _, h⟩ => SqL.of (hl j H' h)) ?_ ?_
  · rintro j x s H' hj ⟨o, p, rfl, h⟩
    rw [List.getElem?_map] at hj
    obtain ⟨z, hz, rfl⟩ := Option.map_eq_some_iff.mp hj
    refine r_gname ?_
    rw [List.set_comm _ _ (Ne.symm hik), List.set_set]
    exact hs j z H' p hz h
  · rintro s H' ⟨o, p, rfl, h⟩
    rw [List.length_map] at h
    exact hd o p H' h
theorem r_ikeysT {td : TE} {σ : L2.St} {H : Hp} {R : It → Hp → Prop} (k : td σ H fun x H1 => ∃ d o, x = .ref d ∧ ((∃ kvs, H1 d = some (.frz o (.dK kvs)) ∧ R (Itk d o kvs) H1) ∨ ∃ kvs, H1 d = some (.frz o (.dT kvs)) ∧ R (Itkt d o kvs) H1)) : iKeys td σ H R := k
/-- a walk over the keys of a dict that is locked for it -/
theorem forT {d : Addr} {o : Obj} {kvs : List TX} {ks : List (Int × Int)} {g : TG} {tb : TS} {D : Ends} {σ : L2.St} {H : Hp} (ke : kvs.map (·.1) = ks.map pk) (Pv : Nat → L2.St → Hp → Prop) (h0 : Pv 0 σ H) (hl : ∀ j σ H, Pv j σ H → H d = some (.frz o (.dT kvs)))
    (hs : ∀ j z q σ H, ks[j]? = some z → Pv j σ H → PrT H q z → g (.ref q) σ H fun σ2 H2 => tb { D with nx := Pv (j + 1), ct := Pv (j + 1), bk := D.nx } σ2 H2)
    (hd : ∀ σ H, Pv ks.length σ H → D.nx σ H) : kFor (Itkt d o kvs) g tb D σ H := by
  have len : kvs.length = ks.length := by have := congrArg List.length ke; rw [List.length_map, List.length_map] at this; exact this
  refine ⟨fun i m σ H => m = ks.length - i ∧ i ≤ ks.length ∧ Pv i σ H, ⟨_, rfl, Nat.zero_le _, h0⟩, ?_⟩
  rintro i m σ H ⟨rfl, hi, p⟩
  by_cases lt : i < ks.length
  · refine .inr ⟨⟨hl _ _ _ p, by omega⟩, Pv (i + 1), fun σ' H' p' => ⟨ks.length - (i + 1), by omega, rfl, lt, p'⟩, fun x H' y => ?_⟩
    obtain ⟨rfl, k, v, q, e1, rfl, e2⟩ := y
    have hz := List.getElem?_eq_getElem lt
    have e3 : (kvs.map (·.1))[i]? = some k := by rw [List.getElem?_map, e1]; rfl
    rw [ke, List.getElem?_map, hz] at e3
    cases e3
    exact hs i _ q σ _ hz p e2
  · have e : i = ks.length := by omega
    subst e
    exact .inl ⟨⟨hl _ _ _ p, by omega⟩, hd σ H p⟩
theorem lock_keep {M : Addr → Prop} {H H' : Hp} {d : Addr} {u f : HO} (h : H d = some u) (k : Keep M (upd H d f) H') : Keep M H (upd H' d u) := fun a o n e => by
  by_cases z : a = d
  · subst z
    rw [h] at e; rw [upd_same]; exact e
  · rw [upd_ne z]
    exact k a o n (by rw [upd_ne z]; exact e)
theorem find_at {α : Type} {p : α → Bool} {l : List α} {j : Nat} {x : α} (h : l[j]? = some x) (n : ∀ y ∈ l.take j, p y = false) (hx : p x = true) : l.find? p = some x := by
  have e : l = l.take j ++ x :: l.drop (j + 1) := by
    obtain ⟨hl, rfl⟩ := List.getElem?_eq_some_iff.mp h
    rw [List.getElem_cons_drop, List.take_append_drop]
  rw [e, List.find?_append, List.find?_eq_none.mpr (fun y hy => by simp [n y hy]), Option.none_or, List.find?_cons_of_pos hx]
theorem find_no {α : Type} {p : α → Bool} {l : List α} (n : ∀ y ∈ l, p y = false) : l.find? p = none := List.find?_eq_none.mpr fun y hy => by simp [n y hy]
theorem take_snoc {α : Type} {l : List α} {j : Nat} {x : α} (h : l[j]? = some x) {P : α → Prop} (a : ∀ y ∈ l.take j, P y) (b : P x) : ∀ y ∈ l.take (j + 1), P y := fun y hy => by
  rw [List.take_succ, h] at hy
  rcases List.mem_append.mp hy with q | q
  · exact a y q
  · cases List.mem_singleton.mp q; exact b
/-! ### a text among texts -/
theorem inV_str {z : Str} (os : List Str) : inV (.str z) (os.map V.str) = decide (z ∈ os) := by
  unfold inV
  rw [List.any_map]
  by_cases h : z ∈ os
  · rw [decide_eq_true h]
    exact List.any_eq_true.mpr ⟨z, h, by simp [Function.comp, eqV]⟩
  · rw [decide_eq_false h]
    exact List.any_eq_false.mpr fun y hy => by
      simp only [Function.comp, eqV, beq_iff_eq]
      exact fun e => h (e ▸ hy)
theorem flat_strs : ∀ os : List Str, (os.map V.str).all flatV = true
  | [] => rfl
  | x :: r => by rw [List.map_cons, List.all_cons, flat_strs r]; rfl
theorem v_ninSt {P : Program} {w : World} {K : PySem.W.Frag} {H : Hp} {Q : VK} {l : Addr} {os : List Str} {z : Str} (h : H l = some (.tup (os.map V.str))) (q : Q (.bl (!decide (z ∈ os))) H) : cNotIn P w K (.str z) (.ref l) H Q :=
  .inl ⟨l, os.map V.str, rfl, .inr (SqT.of h), rfl, flat_strs os, by rw [if_pos rfl, inV_str]; exact q⟩
theorem v_inSt {P : Program} {w : World} {K : PySem.W.Frag} {H : Hp} {Q : VK} {l : Addr} {os : List Str} {z : Str} (h : H l = some (.tup (os.map V.str))) (q : Q (.bl (decide (z ∈ os))) H) : cIn P w K (.str z) (.ref l) H Q :=
  .inl ⟨l, os.map V.str, rfl, .inr (SqT.of h), rfl, flat_strs os, by rw [if_neg (by decide), inV_str]; exact q⟩
theorem v_ninSl {P : Program} {w : World} {K : PySem.W.Frag} {H : Hp} {Q : VK} {l : Addr} {os : List Str} {z : Str} (h : H l = some (.lst (os.map V.str))) (q : Q (.bl (!decide (z ∈ os))) H) : cNotIn P w K (.str z) (.ref l) H Q :=
  .inl ⟨l, os.map V.str, rfl, .inl (SqL.of h), rfl, flat_strs os, by rw [if_pos rfl, inV_str]; exact q⟩
theorem v_inSl {P : Program} {w : World} {K : PySem.W.Frag} {H : Hp} {Q : VK} {l : Addr} {os : List Str} {z : Str} (h : H l = some (.lst (os.map V.str))) (q : Q (.bl (decide (z ∈ os))) H) : cIn P w K (.str z) (.ref l) H Q :=
  .inl ⟨l, os.map V.str, rfl, .inl (SqL.of h), rfl, flat_strs os, by rw [if_neg (by decide), inV_str]; exact q⟩
theorem RpA.bools_ {W : Addr → Prop} {H : Hp} : ∀ {l : List Bool} {vs : List V}, RpA W H vs (l.map .bool) → vs = l.map V.bl
  | [], _, h => h.nil_
  | x :: l, _, h => by
    obtain ⟨v, r, rfl, h1, h⟩ := h.cons_
    rw [h1.bool_, RpA.bools_ h]; rfl
theorem inV_bl {z : Bool} (os : List Bool) : inV (.bl z) (os.map V.bl) = decide (z ∈ os) := by
  unfold inV
  rw [List.any_map]
  by_cases h : z ∈ os
  · rw [decide_eq_true h]
    exact List.any_eq_true.mpr ⟨z, h, by simp [Function.comp, eqV]⟩
  · rw [decide_eq_false h]
    exact List.any_eq_false.mpr fun y hy => by
      simp only [Function.comp, eqV, beq_iff_eq]
      exact fun e => h (e ▸ hy)
theorem flat_bls : ∀ os : List Bool, (os.map V.bl).all flatV = true
  | [] => rfl
  | x :: r => by rw [List.map_cons, List.all_cons, flat_bls r]; rfl
theorem v_inBl {P : Program} {w : World} {K : PySem.W.Frag} {H : Hp} {Q : VK} {W : Addr → Prop} {x : V} {os : List Bool} {z : Bool} (h : Rp W H x (.list (os.map .bool))) (q : Q (.bl (decide (z ∈ os))) H) : cIn P w K (.bl z) x H Q := by
  obtain ⟨l, xs, rfl, e, _, r⟩ := h.list_
  rw [r.bools_] at e
  exact .inl ⟨l, os.map V.bl, rfl, .inl (SqL.of e), rfl, flat_bls os, by rw [if_neg (by decide), inV_bl]; exact q⟩
theorem v_ninBl {P : Program} {w : World} {K : PySem.W.Frag} {H : Hp} {Q : VK} {W : Addr → Prop} {x : V} {os : List Bool} {z : Bool} (h : Rp W H x (.list (os.map .bool))) (q : Q (.bl (!decide (z ∈ os))) H) : cNotIn P w K (.bl z) x H Q := by
  obtain ⟨l, xs, rfl, e, _, r⟩ := h.list_
  rw [r.bools_] at e
  exact .inl ⟨l, os.map V.bl, rfl, .inl (SqL.of e), rfl, flat_bls os, by rw [if_pos rfl, inV_bl]; exact q⟩
/-! ### dicts keyed by pairs, truths in them -/
def BlV (kvs : List TX) : Prop := ∀ k v, valV kvs k = some v → ∃ b, v = .bl b
def gK (kvs : List TX) (x y : Int) : Bool := match valV kvs (pk (x, y)) with
  | some (.bl b) => b
  | _ => false
theorem gK_get {kvs : List TX} (h : BlV kvs) (x y : Int) : (valV kvs (pk (x, y))).getD (.bl false) = .bl (gK kvs x y) := by
  unfold gK
  cases e : valV kvs (pk (x, y)) with
  | none => rfl
  | some v =>
    obtain ⟨b, rfl⟩ := h _ v e
    rfl
theorem r_dg2 {td ty tx : TE} {σ : L2.St} {H : Hp} {Q : VK} (k : td σ H fun x H1 => ∃ a, x = .ref a ∧ IsD H1 a ∧ ty σ H1 fun y H2 => tx σ H2 fun z H3 => ∃ o, DGet H3 a y o ∧ Q (o.getD z) H3) : tDGet2 td ty tx σ H Q := k
/-- d.get((x, y), False), x and y in slots -/
theorem r_getP {ik ia ib : Nat} {kn : Addr} {kvs : List TX} {x y : Int} {σ : L2.St} {H : Hp} {Q : VK} (hk : σ[ik]? = some (some (.ref kn))) (ha : σ[ia]? = some (some (.int x))) (hb : σ[ib]? = some (some (.int y))) (e : Rd H kn (.dT kvs)) (bl : BlV kvs)
    (q : ∀ H', Keep Nil H H' → Q (.bl (gK kvs x y)) H') : tDGet2 (tVar ik) (tTup (tCons (tVar ia) (tCons (tVar ib) tNil))) (tC (.bl false)) σ H Q := by
  refine r_dg2 (r_var hk ⟨kn, rfl, .inr ⟨kvs, e⟩, r_tup (r_cons (r_var ha (r_cons (r_var hb (r_nil (r_ktup (by simp) fun p hp => r_c ?_))))))⟩)
  have kp : Keep Nil H (upd H p (.tup [.int x, .int y])) := Keep.alloc hp
  have e' : Rd (upd H p (.tup [.int x, .int y])) kn (.dT kvs) := e.imp (fun z => kp.get (fun z => z) z) fun ⟨o, z⟩ => ⟨o, kp.get (fun z => z) z⟩
  have g : DGet (upd H p (.tup [.int x, .int y])) kn (.ref p) (valV kvs (pk (x, y))) := .inr ⟨kvs, pk (x, y), p, e', rfl, upd_same, rfl⟩
  exact ⟨_, g, by rw [gK_get bl]; exact q _ kp⟩
end Hm

/-! F7: an except suite in which the error is known: isinstance of it there, calls of defs there. -/
namespace Hm
open PySem PySem.Spec PyProof.Rows L2
section
variable {X : Cx} {pins : List (Addr × Obj)} {σ : L2.St} {H : Hp} {s : Shared}
theorem suiteM (I : Inv X pins σ H s) (a : Addr) : Inv (X.suite a (X.pn ++ pins)) [] σ H s :=
  ⟨I.ok.suite _ _, I.os, I.bare, I.base, I.loc, I.cell, I.free, I.freeC, fun p hp => I.pin p (by rw [List.append_nil] at hp; exact hp), I.hok, I.len⟩
theorem unsuiteM {a : Addr} {pn' : List (Addr × Obj)} (I : Inv (X.suite a (X.pn ++ pins)) pn' σ H s) (ok : X.Ok) : Inv X pins σ H s :=
  ⟨ok, I.os, I.bare, I.base, I.loc, I.cell, I.free, I.freeC, fun p hp => I.pin p (List.mem_append_left _ hp), I.hok, I.len⟩
end
/-- what a clause «except c as n» wishes, the error known in its suite -/
def wValW (K : PySem.W.Frag) (c : Value) (i : Nat) (ts : Addr → Value → TS) (Wout : WX) (D : Ends) : WX := fun cls d σ H =>
  d = none ∧ ∃ b, PySem.W.exmOne K cls c = some b ∧
    (b = true → ∀ a, H a = none → ts a cls { nx := fun σ' H' => D.nx (σ'.set i none) H', rt := D.rt, bk := fun _ _ => False, ct := fun _ _ => False } (σ.set i (some (.ref a))) (upd H a (ExV cls a))) ∧ (b = false → Wout cls d σ H)
section
variable {X : Cx} {x n : Str} {c : Value} {i : Nat} {body suite : List Stmt} {b₀ : Stmt} {np pos pos' : Pos} {tb : WX → TS} {ts : Addr → Value → TS} {Wout : WX}
/-- try: body, except x as n: suite; what is caught stays an object that is known -/
theorem ps_try_valW (hs : X.stack = X.env :: X.outer) (hf : X.env.frame = some X.env.locals) (hN : X.N.Nodup) (hi : X.N[i]? = some n) (hln : X.env.kindOf n = some .local) (hc : Names X x c) (tk : Takes X Wout) (hex : X.ex = [])
    (hb : ∀ (W : WX) (pn : List (Addr × Obj)) (xe : Value → Shared → Prop), Takes (X.tr pn xe) W → PassesOwn (model X.prog X.w) X.A X.env xe → PSs (X.tr pn xe) body (tb W))
    (hsu : ∀ (a : Addr) (cls : Value) (pn : List (Addr × Obj)), PSs (X.suite a pn) (b₀ :: suite) (ts a cls)) :
    PS X (.Try body [.ExceptHandler (some (.Name x np)) (some n) (b₀ :: suite) pos'] [] [] pos) (fun D σ H => tb (wValW X.K c i ts Wout D) D σ H) := by
  refine ⟨fun pins s σ H D I h => wpAny_Try_except ?_⟩
  have ok := I.ok
  have hfr : X.A.frames = some (X.env :: X.outer) := by rw [ok.frames, hs]
  have run := (hb (wValW X.K c i ts Wout D) (X.pn ++ pins) (fun e s₁ => wpAny (model X.prog X.w) X.A (noteFrame e X.env) (fun _ s₂ => wpAny (model X.prog X.w) X.A (setFlight e none)
    (fun _ s₃ => wpAny (model X.prog X.w) X.A (handleBy e X.env [.ExceptHandler (some (.Name x np)) (some n) (b₀ :: suite) pos']) (SP X pins D) X.xe s₃) X.xe s₂) X.xe s₁) ?_ PassesOwn.looking).run [] s σ H D (I.toTry _) h
  · refine wpAny_mono run (fun f s1 hsp => ?_) fun _ _ z => z
    cases f with
    | next => obtain ⟨σ', H', J', q⟩ := hsp; exact wpAny_execs_nil ⟨σ', H', J'.ofTry ok, q⟩
    | brk => obtain ⟨σ', H', J', q⟩ := hsp; exact ⟨σ', H', J'.ofTry ok, q⟩
    | cont => obtain ⟨σ', H', J', q⟩ := hsp; exact ⟨σ', H', J'.ofTry ok, q⟩
    | ret u => obtain ⟨v, σ', H', J', r, q⟩ := hsp; exact ⟨v, σ', H', J'.ofTry ok, r, q⟩
  rintro u s' ⟨a, B, sI, pins', σ', H', cls, d, rfl, J', nb, up, sky, na, os, ag, rfl, b, hb1, hyes, hno⟩
  have J : Inv X pins σ' H' sI := J'.ofTry ok
  have air : Sky B (X.env :: X.outer) a (Zc cls none) X.env.locals s'.heap := by rw [← hs]; exact sky
  show wpAny (model X.prog X.w) X.A (noteFrame (.ref a) X.env) _ _ _
  refine Sky.land Zc.steady hfr hf air fun h3 fl3 up3 => ?_
  have J3 : Inv X pins σ' H' { s' with heap := h3 } := J.landed nb fl3.1 (up.trans up3) os ag
  obtain ⟨oe3, vs3, he3, hz3, hd3⟩ := fl3.there
  have aside : a ∉ frs (X.env :: X.outer) := fun hm => by
    obtain ⟨_, o', e', hnf⟩ := fl3.2.2.1.mem hm
    rw [he3] at e'; cases e'
    exact hnf _ hd3
  have gI : sI.heap.get? a = none := by
    cases e : sI.heap.get? a with
    | none => rfl
    | some o =>
      have q := nb a o e (by show a ∉ frs X.stack; rw [hs]; exact aside)
      rw [fl3.2.1] at q; cases q
  have nL : a ≠ X.env.locals := fun z => aside (List.mem_filterMap.mpr ⟨X.env, List.mem_cons_self, by rw [hf, z]⟩)
  have nF : a ∉ X.fs := fun hm => by
    obtain ⟨e, he, q⟩ := List.mem_filterMap.mp hm
    exact aside (List.mem_filterMap.mpr ⟨e, List.mem_cons_of_mem _ he, q⟩)
  have h00 : X.s_0.heap.get? a = none := by
    cases e : X.s_0.heap.get? a with
    | none => rfl
    | some o =>
      obtain ⟨o', q⟩ := J.base.there a o e (by rw [hex]; exact List.not_mem_nil)
      rw [gI] at q; cases q
  have noCell : ∀ y k, X.env.cells.lookup y = some k → k ≠ a := fun y k e z => by
    obtain ⟨v, o, q, _⟩ := J.cell y k e
    rw [z, gI] at q; cases q
  have noPin : ∀ p ∈ X.pn ++ pins, p.1 ≠ a := fun p hp z => by
    have q := (J.pin p hp).1
    rw [z, gI] at q; cases q
  have S3 := J3.suite he3 hd3 na nL nF
  refine wpAny_handleBy_cons (codeAny_handlers_test ?_) (by intro q; cases q)
  have LT : PySem.W.Looks (model X.prog X.w) h3 (typeOf (.ref a)) cls := fun A Q E s k q => wpAny_typeOf_ref (k _ _ he3) (by rw [hz3.1]; exact q)
  have LM := PySem.W.exm_one (M := model X.prog X.w) (J3.kIn) LT hb1
  have test : ∀ {Q : Value → Shared → Prop} {E : Value → Shared → Prop}, Q c { s' with heap := h3 } → wpAny (model X.prog X.w) (X.A.mark (some (.ref a))) (eval (.Name x np) X.env) Q E { s' with heap := h3 } := fun {Q E} q => by
    obtain ⟨hg, hdbg, hm | ⟨hm, hv, hnn⟩⟩ := hc
    · exact ld_glob (X := X.suite a ((a, oe3) :: (X.pn ++ pins))) S3 hg hm q hdbg
    · exact ld_blt (X := X.suite a ((a, oe3) :: (X.pn ++ pins))) S3 hg hm hv q hnn hdbg
  refine test (LM.here ?_)
  cases b with
  | false =>
    show wpAny _ X.A (handleBy (.ref a) X.env []) _ _ _
    refine wpAny_handleBy_nil ?_
    obtain ⟨k1, k2, k3, oe, vs, T, oT, ts', he, hz, hd, h1, hr⟩ := id fl3
    unfold PySem.passOn
    refine wpAny_bind (wpAny_field he hd h1 ?_)
    rw [if_neg (show ¬ ((Value.ref T == Value.none) = true) from by simp)]
    have fin : wpAny (model X.prog X.w) X.A (setFlight (.ref a) X.env.frame) (fun _ s4 => wpAny (model X.prog X.w) X.A (throw (.ref a) : Sem Flow) (SP X pins D) X.xe s4) X.xe { s' with heap := h3 } := by
      rw [hf]
      refine HandSPX.setFlight_upZ fl3 fun h4 hh4 up4 => wpAny_throw (tk _ _ ?_)
      exact ⟨a, B, sI, pins, σ', H', cls, none, rfl, J, nb, (up.trans up3).trans up4, .inr (.inr (by rw [hs]; exact hh4)), na, os, ag, hno rfl⟩
    first
      | exact wpAny_bind (wpAny_pure (wpAny_bind fin))
      | exact wpAny_bind fin
  | true =>
    refine codeAny_handlers_suite_as (HandSPX.lands_againZ fl3 fun h4 fl4 up4 => ?_)
    have J4 : Inv X pins σ' H' { s' with heap := h4 } := J.landed nb fl4.1 ((up.trans up3).trans up4) os ag
    obtain ⟨oe4, vs4, he4, hz4, hd4⟩ := fl4.there
    have S3' : Inv (X.suite a (X.pn ++ pins)) [] σ' H' { s' with heap := h4 } := suiteM J4 a
    have S4 := show_ (φ := fun h => ∃ (oe : Obj) (vs : Array Value), h.get? a = some oe ∧ Zc cls none oe ∧ oe.data = .fields vs) S3' na h00 nL.symm noCell (fun p hp => noPin p (by rw [List.append_nil] at hp; exact hp)) (exV_ok he4 hz4 hd4)
    refine store_ok (X := X.suite a (X.pn ++ pins)) (v := .ref a) S4 hN hi (.inl hln) rfl (fun s5 S5 => ?_) (.inr hln)
    refine wpAny_mono ((hsu a cls (X.pn ++ pins)).run [] s5 _ _ _ S5 (hyes rfl a na)) (fun f s6 hsp => ?_) (fun _ _ z => False.elim z)
    cases f with
    | next =>
      obtain ⟨σ6, H6, S6, q6⟩ := hsp
      exact gone_ok (unsuiteM S6 ok) hN hi hln fun s7 J8 => ⟨_, _, J8, q6⟩
    | brk => obtain ⟨σ6, H6, S6, q6⟩ := hsp; exact q6.elim
    | cont => obtain ⟨σ6, H6, S6, q6⟩ := hsp; exact q6.elim
    | ret u =>
      obtain ⟨v6, σ6, H6, S6, r6, q6⟩ := hsp
      exact gone_ok (unsuiteM S6 ok) hN hi hln fun s7 J7 => ⟨_, _, _, J7, r6, q6⟩
end
/-! ### defs that are called in an except suite -/
structure FnM (P : Program) (w : World) (K : PySem.W.Frag) (mg : Str → Option Value) (base : Heap) (CX : CXT) (k : Nat) (f : Addr) (fd : FuncData) (ps : List Str) (sp : Sp) : Prop where
  len : ∀ vs H Q E, sp vs H Q E → vs.length = ps.length
  run : ∀ (A : Around) (outer : List Env) (s : Shared) (H : Hp) (args : Args) (us : List Value) (vs : List V) (Q : VK) (E : XK), L2H.RoomH k A → Env0 P w K mg base A outer s H → BindsTo s fd args (ps.zip us) → Vals vs us → sp vs H Q E →
    codeAny (model P w) A (.call (.ref f) args) (CR CX outer P w H s Q E) s
def cxM (CX : CXT) (P : Program) (w : World) (K : PySem.W.Frag) (mg : Str → Option Value) (base : Heap) (N : List Str) (qual : Str) (scope : Scope) (f : Addr) (cd : Value) (A : Around) (outer : List Env) (s : Shared) (H : Hp) (E : XK) : Cx :=
  { cxOf CX P w K mg base N qual scope f cd A outer s H E with calm := false }
theorem inv_startM {CX : CXT} {P : Program} {w : World} {K : PySem.W.Frag} {mg : Str → Option Value} {base : Heap} {N ps : List Str} {qual : Str} {scope : Scope} {f : Addr} {cd : Value} {A : Around} {outer : List Env} {s s1 : Shared} {H : Hp} {E : XK} {us : List Value} {vs : List V}
    (S : FnScope N ps scope) (e0 : Env0 P w K mg base A outer s H) (hl : vs.length = ps.length) (r : Vals vs us)
    (x : InCallC s s.heap.objs.size (bindL (envOfC qual scope s.heap.objs.size f cd).kindOf (ps.zip us) fun _ => none) (cellsFrom (s.heap.objs.size + 1) scope.names []) (bindC (envOfC qual scope s.heap.objs.size f cd).kindOf (ps.zip us) fun _ => none) s1) :
    Inv (cxM CX P w K mg base N qual scope f cd A outer s H E) [] (L2.start N vs) H s1 := by
  have I := inv_start (CX := CX) (E := E) (A := { A with handled := none }) S rfl ⟨e0.frames, e0.mod, e0.bs, e0.bsz, e0.funs, e0.frf, e0.hok, e0.bare⟩ hl r x
  have o := I.ok
  exact ⟨⟨o.mod, o.kind, o.glob, o.blt, o.above, o.inj, o.has, o.cab, fun z => Bool.noConfusion (show false = true from z), Around.frames_deeper e0.frames, o.stk, o.exf, o.bs, o.bsz, o.noex, o.exfs, o.funs, o.frf⟩, I.os, I.bare, I.base, I.loc, I.cell, I.free, I.freeC, I.pin, I.hok, I.len⟩
theorem fn_ofM {P : Program} {w : World} {K : PySem.W.Frag} {mg : Str → Option Value} {base : Heap} {k : Nat} {x qual : Str} {st : Stmt} {f : Addr} {fd : FuncData} {N ps : List Str} {sp : Sp} (F : Fun K x qual st f fd) (S : FnScope N ps (defScope st))
    (len : ∀ vs H Q E, sp vs H Q E → vs.length = ps.length)
    (hbody : ∀ (cdv : Value) (A : Around) (outer : List Env) (s : Shared) (H : Hp) (vs : List V) (Q : VK) (E : XK), L2H.RoomH k (A.deeper (envOfC qual (defScope st) s.heap.objs.size f cdv)) → sp vs H Q E →
      ∃ t, PSs (cxM CX0 P w K mg base N qual (defScope st) f cdv A outer s H E).nox (defBody st) t ∧ t { nx := fun _ H' => Q .non H', rt := Q } (L2.start N vs) H) :
    FnM P w K mg base CX0 (k + 1) f fd ps sp := by
  obtain ⟨oc, od, kV, doc, pm, an, cdv, ct, osl, rfl, lk, hcd⟩ := F.ex
  refine ⟨len, fun A outer s H args us vs Q E hr e0 hb r hsp => ?_⟩
  have KX : K.In s.heap := e0.mod.kin.keeps fun b o e => (e0.bs b o e).1
  refine codeAny_call_function hr.depth (KX _ _ lk) rfl S.co S.gen rfl (PySem.W.codeRec_of KX hcd) (hb _ _ _ _ ?_)
  refine wpAny_newFunctionEnv_cells S.kind (fun ⟨n, v⟩ hy => (S.par n (List.of_mem_zip hy).1).imp id fun q => ⟨q, PySem.W.cellsFrom_some _ _ _ (.inl q)⟩) fun env he s1 x => ?_
  subst he
  refine ⟨(e0.mod.nolimit.keeps fun b o e => (e0.bs b o e).1).keeps x.toInCall.keep, codeAny_func ?_⟩
  obtain ⟨t, ht, hq⟩ := hbody cdv A outer s H vs Q E (hr.deeper _) hsp
  refine wpAny_mono (ht.nox.run [] s1 (L2.start N vs) H _ (inv_startM S e0 (len _ _ _ _ hsp) r x) hq) (fun fl s' hs => ?_) fun e s' hs => hs
  cases fl with
  | ret u =>
    obtain ⟨v, σ', H', J, rv, q⟩ := hs
    exact ⟨v, H', J.os, J.bare, J.base, J.hok, rv, q⟩
  | next =>
    obtain ⟨σ', H', J, q⟩ := hs
    exact ⟨V.non, H', J.os, J.bare, J.base, J.hok, rfl, q⟩
  | brk =>
    obtain ⟨_, _, _, q⟩ := hs
    exact q.elim
  | cont =>
    obtain ⟨_, _, _, q⟩ := hs
    exact q.elim
structure CalM (P : Program) (w : World) (K : PySem.W.Frag) (mg : Str → Option Value) (base : Heap) (k : Nat) (x : Str) (sp : Sp) : Prop where
  ex : ∃ (f : Addr) (fd : FuncData) (ps : List Str), FnM P w K mg base CX0 k f fd ps sp ∧ mg x = some (.ref f) ∧ PySem.W.keepIn K (.ref f) = true ∧ Binds K fd ps []
section
variable {X : Cx} {k j : Nat} {x m : Str} {sp : Sp} {p pos apos : Pos} {e o : Expr} {es : List Expr} {ta : TE} {t : TA}
theorem e_callM (c : CalM X.prog X.w X.K X.mg X.base k x sp) (hr : L2H.RoomH j X.A) (hk : k ≤ j) (hg : Gl X x) (ha : PA X (e :: es) t)
    (hdb : (x == ("__debug__" : Str)) = false := by decide) (he : starEach (e :: es) X.env = (false, eval e X.env) :: starEach es X.env := by rfl) (hpl : (backTo pos (starEach es X.env)).any (·.1) = false := by rfl) :
    PE X (.Call (.Name x p) (e :: es) [] pos) (tCall sp [] E0 t) := by
  obtain ⟨f, fd, ps, F, hm, kp, b⟩ := c.ex
  refine ⟨fun pins s σ H Q I h => ?_⟩
  refine wpAny_Call_Name_kw (ld_glob I hg hm ?_ hdb)
  refine PySem.W.callWith_K (h₀ := X.base) I.ok.mod.kin kp (thn (ha.run pos pins s σ H _ I h) fun us s1 ⟨vs, H1, I1, r, q⟩ => ⟨I1.kIn, ?_⟩) he hpl
  have q : sp vs H1 Q E0 := by
    have q' : sp (vs ++ []) H1 Q E0 := q
    simpa only [List.append_nil] using q'
  have hl : us.length = ps.length := by rw [← r.length]; exact F.len _ _ _ _ q
  have b' := b s1 us I1.kIn (by rw [List.append_nil]; exact hl)
  rw [List.append_nil] at b'
  refine wpAny_call (codeAny_mono (F.run X.A X.stack s1 H1 ⟨us, []⟩ us vs Q E0 (hr.mono hk) I1.env0 b' r q) fun r s' hq => ?_)
  cases r with
  | error e => exact hq.elim
  | ok fl =>
    cases fl with
    | ret u => exact I1.after hq
    | next => exact False.elim hq
    | brk => exact False.elim hq
    | cont => exact False.elim hq
end
theorem hu64M {k : Nat} {A : Around} (r : L2H.RoomH k A) : A.units + 64 < cLine := by have := r.un; omega
theorem hu65M {k : Nat} {A : Around} (r : L2H.RoomH k A) : A.units + 65 < cLine := by have := r.un; omega
/-! ### try -/
def tTryW (K : PySem.W.Frag) (c : Value) (i : Nat) (ts : TS) (tb : WX → TS) : TS := fun D σ H => tb (wValW K c i (fun _ _ => ts) (fun _ _ _ _ => False) D) D σ H
theorem r_tryW {K : PySem.W.Frag} {c : Value} {i : Nat} {ts : TS} {tb : WX → TS} {D : Ends} {σ : L2.St} {H : Hp} (h : tb (wValW K c i (fun _ _ => ts) (fun _ _ _ _ => False) D) D σ H) : tTryW K c i ts tb D σ H := h
theorem w_valW {K : PySem.W.Frag} {c cls : Value} {i : Nat} {ts : TS} {D : Ends} {σ : L2.St} {H : Hp} (hm : PySem.W.exmOne K cls c = some true)
    (h : ∀ a, H a = none → ts { nx := fun σ' H' => D.nx (σ'.set i none) H', rt := D.rt, bk := fun _ _ => False, ct := fun _ _ => False } (σ.set i (some (.ref a))) (upd H a (ExV cls a))) : wValW K c i (fun _ _ => ts) (fun _ _ _ _ => False) D cls none σ H :=
  ⟨rfl, true, hm, fun _ a ha => h a ha, fun z => nomatch z⟩
section
variable {X : Cx} {x n : Str} {c : Value} {i : Nat} {body suite : List Stmt} {b₀ : Stmt} {np pos pos' : Pos} {tb : WX → TS} {ts : TS}
theorem ps_tryW (hs : X.stack = X.env :: X.outer) (hf : X.env.frame = some X.env.locals) (hN : X.N.Nodup) (hi : X.N[i]? = some n) (hln : X.env.kindOf n = some .local) (hc : Names X x c) (hex : X.ex = [])
    (hb : ∀ (W : WX) (pn : List (Addr × Obj)) (xe : Value → Shared → Prop), Takes (X.tr pn xe) W → PassesOwn (model X.prog X.w) X.A X.env xe → PSs (X.tr pn xe) body (tb W))
    (hsu : ∀ (a : Addr) (pn : List (Addr × Obj)), PSs (X.suite a pn) (b₀ :: suite) ts) :
    PS X (.Try body [.ExceptHandler (some (.Name x np)) (some n) (b₀ :: suite) pos'] [] [] pos) (tTryW X.K c i ts tb) :=
  ps_try_valW (tb := tb) (ts := fun _ _ => ts) hs hf hN hi hln hc takes0 hex (fun W pn xe tk po => hb W pn xe tk po) fun a _ pn => hsu a pn
end
end Hm

/-! F8: texts: a sign among signs, times, list of a text, join, count, walks over a text. -/
namespace Hm
open PySem PySem.Spec PyProof.Rows L2
/-- a text of some signs -/
abbrev T1 (c : Nat) : Str := ⟨#[c]⟩
def tS (l : List Nat) : Str := ⟨l.toArray⟩
theorem tS_cps (l : List Nat) : (tS l).cps.toList = l := rfl
theorem tS_len (l : List Nat) : (tS l).length = l.length := by simp [tS, PySem.Str.length]
theorem tS_of (z : Str) : tS z.cps.toList = z := rfl
theorem tS_inj {l m : List Nat} (h : tS l = tS m) : l = m := by
  have := congrArg (fun z : Str => z.cps.toList) h
  exact this
def cInS : R2 := fun x y H Q => ∃ (c : Nat) (z : Str), x = .str ⟨#[c]⟩ ∧ y = .str z ∧ Q (.bl (decide (c ∈ z.cps.toList))) H
def cNotInS : R2 := fun x y H Q => ∃ (c : Nat) (z : Str), x = .str ⟨#[c]⟩ ∧ y = .str z ∧ Q (.bl (!decide (c ∈ z.cps.toList))) H
def bMulS : R2 := fun x y H Q => ∃ (z : Str) (n : Int), x = .str z ∧ y = .int n ∧ MulOk z n ∧ Q (.str (Txt.mul z n)) H
def kListS : List V → Hp → VK → Prop := fun xs H Q => ∃ z : Str, xs = [.str z] ∧ z.length ≤ 100000 ∧ ∀ l, H l = none → Q (.ref l) (upd H l (.lst (z.cps.toList.map fun c => V.str (T1 c))))
def rJoin (K : PySem.W.Frag) : V → List V → Hp → VK → Prop := fun x xs H Q => ∃ a p, ∃ ys : List Str, x = .str a ∧ xs = [.ref p] ∧ (SqL K H p (ys.map V.str) ∨ SqT K H p (ys.map V.str)) ∧
    (ys.map (·.length)).sum + ys.length * a.length ≤ 16777216 ∧ Q (.str (Txt.join a ys)) H
def rCountS : V → List V → Hp → VK → Prop := fun x xs H Q => ∃ a b, x = .str a ∧ xs = [.str b] ∧ Q (.int (Txt.count a b)) H
def kStrI : List V → Hp → VK → Prop := fun xs H Q => ∃ i, xs = [.int i] ∧ i.natAbs.log2 < 1920 ∧ Q (.str (toString i)) H
section
variable {X : Cx}
theorem o_inS : OpR X (compareOp .In) cInS := op_in_sign
theorem o_notinS : OpR X (compareOp .NotIn) cNotInS := op_notIn_sign
theorem o_mulS : OpR X (binaryOp .Mult) bMulS := by
  intro pins s σ H x y v u Q I rx ry h
  obtain ⟨z, n, rfl, rfl, ok, q⟩ := h
  obtain ⟨t, rfl⟩ := rx
  obtain ⟨t', rfl⟩ := ry
  exact PySem.SB.mul ok fun t' k => ⟨.str (Txt.mul z n), H, I.tok _, ⟨_, rfl⟩, q⟩
theorem k_listS (hc : X.calm = true) : CallR X (.type "list") kListS := by
  intro pins s σ H xs us Q I r h
  obtain ⟨z, rfl, few, q⟩ := h
  obtain ⟨u, rfl, rx⟩ := vals1 r
  obtain ⟨t, rfl⟩ := rx
  have hz : z.cps.size ≤ sizeLine := by
    have : z.cps.size = z.length := rfl
    rw [sizeLine_eq]; omega
  refine call_list_str (I.ok.hd hc) z t (fun h' tk acc' c' kp e ⟨sz, at_⟩ => ?_) hz
  have r' : Vals (z.cps.toList.map fun c => V.str (T1 c)) acc'.toList := by
    refine vals_of_at (by rw [List.length_map, Array.length_toList, Array.length_toList, sz]) fun j x u hx hu => ?_
    rw [Array.getElem?_toList] at hu
    obtain ⟨c, w, hc, rfl⟩ := at_ j u hu
    rw [List.getElem?_map, Array.getElem?_toList, hc] at hx
    cases hx
    exact ⟨_, rfl⟩
  exact ⟨.ref s.heap.objs.size, _, I.laid (t' := tk) kp (Nat.le_refl _) (show ObjOk X.prog X.w _ h' _ (.lst (z.cps.toList.map fun c => V.str (T1 c))) from ⟨by rw [List.length_map, Array.length_toList]; exact hz, acc'.toList, c', r', e⟩), rfl, q _ (I.hok.fresh (Nat.le_refl _))⟩
theorem k_strI : CallR X (.type "str") kStrI := call_str_int
end
section
variable {P : Program} {w : World} {K : PySem.W.Frag} {H : Hp} {Q : VK} {a b z : Str} {c : Nat} {n : Int} {l : Addr} {σ : L2.St}
theorem v_inS (k : Q (.bl (decide (c ∈ z.cps.toList))) H) : cInS (.str ⟨#[c]⟩) (.str z) H Q := ⟨c, z, rfl, rfl, k⟩
theorem v_ninS (k : Q (.bl (!decide (c ∈ z.cps.toList))) H) : cNotInS (.str ⟨#[c]⟩) (.str z) H Q := ⟨c, z, rfl, rfl, k⟩
theorem v_ltS (k : Q (.bl (decide (a.cps.toList < b.cps.toList))) H) : cLt K (.str a) (.str b) H Q := .inr (.inl ⟨a, b, rfl, rfl, k⟩)
theorem v_lenStr (h : a.length ≤ 100000) (k : Q (.int a.length) H) : kLen K [.str a] H Q := .inl ⟨_, _, rfl, ⟨by rw [sizeLine_eq]; omega, rfl⟩, k⟩
theorem v_listS (h : z.length ≤ 100000) (k : ∀ l, H l = none → Q (.ref l) (upd H l (.lst (z.cps.toList.map fun c => V.str (T1 c))))) : kListS [.str z] H Q := ⟨z, rfl, h, k⟩
theorem v_joinL {ys : List Str} (h : H l = some (.lst (ys.map V.str))) (n : (ys.map (·.length)).sum + ys.length * a.length ≤ 16777216) (k : Q (.str (Txt.join a ys)) H) : rJoin K (.str a) [.ref l] H Q := ⟨a, l, ys, rfl, rfl, .inl (SqL.of h), n, k⟩
theorem v_countS (k : Q (.int (Txt.count a b)) H) : rCountS (.str a) [.str b] H Q := ⟨a, b, rfl, rfl, k⟩
theorem v_slS {lo hi : Option Int} (h : z.length ≤ 100000) (k : Q (.str (cutS z lo hi)) H) : rSlS (.str z) lo hi H Q := ⟨z, rfl, by rw [sizeLine_eq]; omega, k⟩
theorem r_kbm_s {q : V → List V → Hp → VK → Prop} {tr : TA} (k : tr σ H fun xs H2 => q (.str a) xs H2 Q) : kBM K "str" q tr σ (.str a) H Q := ⟨rfl, k⟩
theorem mulOk_small (hz : z.length ≤ 1000) (h0 : 0 ≤ n) (h1 : n ≤ 1000) : MulOk z n := by
  refine ⟨?_, fun hn _ => ?_, fun hn _ => ?_⟩
  · rw [Bool.or_eq_false_iff]
    exact ⟨decide_eq_false (by omega), decide_eq_false (by omega)⟩
  · have : (1000 : Int) ≤ (2 ^ 63 - 1) / n := by
      refine Int.le_ediv_of_mul_le (by omega) ?_
      omega
    omega
  · unfold PySem.Builtin.Str.tooLong
    rw [decide_eq_false_iff_not]
    have := Nat.mul_le_mul hz (show n.toNat ≤ 1000 by omega)
    have := sizeLine_eq
    omega
theorem v_mulS (m : MulOk z n) (k : Q (.str (Txt.mul z n)) H) : bMulS (.str z) (.int n) H Q := ⟨z, n, rfl, rfl, m, k⟩
/-- a sign of a text -/
theorem v_ixS {i : Int} (h : atI z.cps.toList i = some c) (few : z.length ≤ 100000) (k : Q (.str (T1 c)) H) : bIx P w K (.str z) (.int i) H Q := .inr (.inr (.inl ⟨z, i, c, rfl, rfl, by rw [sizeLine_eq]; omega, h, k⟩))
theorem r_iStr {te : TE} {R : It → Hp → Prop} (k : te σ H fun v H1 => ∃ x, v = .str x ∧ R (Its x) H1) : iStr te σ H R := k
/-- a walk over a text -/
theorem for_str {g : TG} {tb : TS} {D : Ends} (Pv : Nat → L2.St → Hp → Prop) (h0 : Pv 0 σ H)
    (hs : ∀ i c σ H, z.cps.toList[i]? = some c → Pv i σ H → g (.str (T1 c)) σ H fun σ2 H2 => tb { D with nx := Pv (i + 1), ct := Pv (i + 1), bk := D.nx } σ2 H2) (hd : ∀ σ H, Pv z.cps.toList.length σ H → D.nx σ H) : kFor (Its z) g tb D σ H := by
  have sz : z.cps.toList.length = z.cps.size := Array.length_toList
  refine ⟨fun i m σ H => m = z.cps.size - i ∧ i ≤ z.cps.size ∧ Pv i σ H, ⟨_, rfl, Nat.zero_le _, h0⟩, ?_⟩
  rintro i m σ H ⟨rfl, hi, p⟩
  by_cases lt : i < z.cps.size
  · refine .inr ⟨lt, Pv (i + 1), fun σ' H' p' => ⟨z.cps.size - (i + 1), by omega, rfl, lt, p'⟩, fun x H' y => ?_⟩
    obtain ⟨rfl, c, hc, rfl⟩ := y
    exact hs i c σ H' (by rw [Array.getElem?_toList]; exact hc) p
  · have e : i = z.cps.size := by omega
    subst e
    exact .inl ⟨Nat.le_refl _, hd σ H (by rw [sz]; exact p)⟩
end
end Hm

namespace Hm
open PySem L2
/-! F3m: the reading's steps. kaf_suf: one step; kaf_pre: what stands at an address; tlg_ne: two addresses differ. -/
local macro_rules | `(tactic| tlg_ne) => `(tactic| first
  | with_reducible assumption
  | with_reducible exact Ne.symm (by assumption)
  | (refine' ne_old (by assumption) ?a; (case a => (kaf_pre; done)))
  | (refine' ne_new (by assumption) ?a; (case a => (kaf_pre; done)))
  | fail "tlg_ne")
local macro_rules | `(tactic| kaf_pre) => `(tactic| first
  | with_reducible assumption
  | ((with_reducible refine' upd_at ?a); (case a => rfl))
  | ((first
      | (with_reducible refine' get_new (by assumption) ?b)
      | ((with_reducible refine' get_set ?a ?b); (case a => (tlg_ne; done)))
      | ((with_reducible refine' Keep.get (by assumption) ?a ?b); (case a => (first | assumption | (intro z; exact z.elim) | fail "kaf_pre")))
      | fail "kaf_pre"); (case b => (kaf_pre; done)))
  | ((fail_if_success (with_reducible refine' is_upd ?_)); assumption)
  | ((with_reducible refine' get_setK ?a ?b ?e); (case a => (kaf_pre; done)); (case b => (kaf_pre; done)); (case e => (intro z; cases z; done)))
  | fail "kaf_pre")
local macro_rules | `(tactic| isplit) => `(tactic| first
  | assumption
  | ((with_reducible refine' seq_new (by assumption) ?a); (case a => (isplit; done)))
  | ((with_reducible refine' seq_keep (by assumption) ?a); (case a => (isplit; done))))
local macro_rules | `(tactic| kaf_suf) => `(tactic| first
  | with_reducible refine r_seq ?_
  | with_reducible refine r_asg ?_
  | ((with_reducible refine' r_var ?a ?_); (case a => rfl))
  | with_reducible refine r_c ?_
  | with_reducible refine r_gname ?_
  | with_reducible refine r_op ?_
  | with_reducible refine r_cons ?_
  | with_reducible refine r_nil ?_
  | with_reducible refine r_cb ?_
  | with_reducible refine r_call ?_
  | with_reducible refine r_meth ?_
  | with_reducible refine r_fld ?_
  | with_reducible refine r_if ?_
  | with_reducible refine r_test ?_
  | with_reducible refine r_kB ?_
  | with_reducible refine r_ite_tt ?_
  | with_reducible refine r_ite_ff ?_
  | with_reducible refine r_ite_nt ?_
  | with_reducible refine r_ite_nf ?_
  | ((with_reducible refine' r_iteT' ?a ?_); (case a => first | assumption | rfl | omega))
  | ((with_reducible refine' r_iteF' ?a ?_); (case a => first | assumption | omega))
  | ((with_reducible refine' r_iteNT' ?a ?_); (case a => first | assumption | omega))
  | ((with_reducible refine' r_iteNF' ?a ?_); (case a => first | assumption | rfl | omega))
  | with_reducible refine r_next ?_
  | with_reducible refine r_nx ?_
  | with_reducible refine r_rt ?_
  | with_reducible refine r_bk ?_
  | with_reducible refine r_ct ?_
  | with_reducible refine r_drop ?_
  | with_reducible refine r_ret ?_
  | with_reducible refine v_add ?_
  | with_reducible refine v_sub ?_
  | with_reducible refine v_eq ?_
  | with_reducible refine v_ne ?_
  | with_reducible refine v_lt ?_
  | with_reducible refine v_le ?_
  | with_reducible refine v_gt ?_
  | with_reducible refine v_ge ?_
  | ((with_reducible refine' v_mod ?a ?_); (case a => first | assumption | decide | omega))
  | ((with_reducible refine' v_mul ?a ?_); (case a => first | assumption | decide | omega))
  | ((with_reducible refine' v_div ?a ?_); (case a => first | assumption | decide | omega))
  | ((with_reducible refine' v_pow ?a ?_); (case a => exact ⟨by decide, by decide, by decide⟩))
  | ((with_reducible refine' v_ixL ?a ?b ?_); (case a => (kaf_pre; done)); (case b => (first | assumption | rfl)))
  | ((with_reducible refine' v_ixT ?a ?b ?_); (case a => (kaf_pre; done)); (case b => (first | assumption | rfl)))
  | ((with_reducible refine' v_lenL ?a ?_); (case a => (kaf_pre; done)))
  | ((with_reducible refine' v_lenT ?a ?_); (case a => (kaf_pre; done)))
  | ((with_reducible refine' v_lenK ?a ?_); (case a => (isplit; done)))
  | ((with_reducible refine' v_ixK ?a ?b ?_); (case a => (isplit; done)); (case b => (first | assumption | rfl)))
  | ((with_reducible refine' v_append ?a ?b ?_); (case a => (kaf_pre; done)); (case b => first | assumption | exact few1 (by simp; omega)))
  | ((with_reducible refine' r_krng1 ?a ?_); (case a => first | assumption | decide | omega))
  | with_reducible refine v_int ?_
  | with_reducible refine v_intB ?_
  | with_reducible refine v_max ?_
  | with_reducible refine v_min ?_
  | with_reducible refine r_and ?_
  | with_reducible refine r_or ?_
  | with_reducible refine r_not ?_
  | with_reducible refine r_tup ?_
  | with_reducible refine r_lst ?_
  | ((with_reducible refine' r_ktup ?a ?_); (case a => (simp; done)))
  | ((with_reducible refine' r_klst ?a ?_); (case a => (simp; done)))
  | with_reducible refine r_bm ?_
  | with_reducible refine r_bm0 ?_
  | ((with_reducible refine' r_kbm_l ?a ?_); (case a => (kaf_pre; done)))
  | with_reducible refine r_gsub ?_
  | ((with_reducible refine' v_setL ?a ?b ?_); (case a => (kaf_pre; done)); (case b => first | assumption | rfl))
  | with_reducible refine r_sfld ?_
  | with_reducible refine r_make ?_
  | with_reducible refine r_for ?_
  | with_reducible refine r_rng1 ?_
  | with_reducible refine r_iany ?_
  | ((with_reducible refine' r_kiterL ?a ?_); (case a => (kaf_pre; done)))
  | ((with_reducible refine' r_kiterT ?a ?_); (case a => (kaf_pre; done)))
  | with_reducible refine r_lc ?_
  | with_reducible refine r_yes ?_
  | with_reducible refine r_chain ?_
  | with_reducible refine r_andV ?_
  | with_reducible refine r_orV ?_
  | with_reducible refine r_notV ?_
  | with_reducible refine r_tru ?_
  | with_reducible refine r_tru_bl ?_
  | with_reducible refine r_un ?_
  | with_reducible refine r_rU ?_
  | with_reducible refine r_sl ?_
  | with_reducible refine r_nopart ?_
  | with_reducible refine r_part ?_
  | with_reducible refine r_kI ?_
  | with_reducible refine r_rev ?_
  | with_reducible refine r_lstRg1 ?_
  | with_reducible refine r_krg ?_
  | with_reducible refine v_isN ?_
  | with_reducible refine v_notN ?_
  | with_reducible refine v_isB ?_
  | with_reducible refine v_notB ?_
  | with_reducible refine v_eqS ?_
  | with_reducible refine v_neS ?_
  | ((with_reducible refine' v_isiI ?a ?_); (case a => first | with_reducible exact kit_int_int | with_reducible exact kit_int_bool | with_reducible exact kit_int_list | with_reducible exact kit_int_tuple | with_reducible exact kit_int_str))
  | ((with_reducible refine' v_isiB ?a ?_); (case a => first | with_reducible exact kit_bool_int | with_reducible exact kit_bool_bool | with_reducible exact kit_bool_list | with_reducible exact kit_bool_tuple | with_reducible exact kit_bool_str))
  | ((with_reducible refine' v_isiS ?a ?_); (case a => first | with_reducible exact kit_str_int | with_reducible exact kit_str_bool | with_reducible exact kit_str_list | with_reducible exact kit_str_tuple | with_reducible exact kit_str_str))
  | ((with_reducible refine' v_isiL ?a ?b ?_); (case a => (kaf_pre; done)); (case b => first | with_reducible exact kit_list_int | with_reducible exact kit_list_bool | with_reducible exact kit_list_list | with_reducible exact kit_list_tuple | with_reducible exact kit_list_str))
  | ((with_reducible refine' v_isiT ?a ?b ?_); (case a => (kaf_pre; done)); (case b => first | with_reducible exact kit_tuple_int | with_reducible exact kit_tuple_bool | with_reducible exact kit_tuple_list | with_reducible exact kit_tuple_tuple | with_reducible exact kit_tuple_str))
  | with_reducible refine r_brk ?_
  | with_reducible refine r_cont ?_
  | with_reducible refine r_par ?_
  | with_reducible refine r_par2 ?_
  | with_reducible refine v_abs ?_
  | ((with_reducible refine' v_listL ?a ?_); (case a => (kaf_pre; done)))
  | ((with_reducible refine' v_listT ?a ?_); (case a => (kaf_pre; done)))
  | ((with_reducible refine' v_set ?a ?b ?_); (case a => (kaf_pre; done)); (case b => first | assumption | omega | (simp; omega)))
  | ((with_reducible refine' v_sortedS ?a ?_); (case a => (kaf_pre; done)))
  | ((with_reducible refine' v_sortedL ?a ?_); (case a => (kaf_pre; done)))
  | ((with_reducible refine' v_tupleL ?a ?_); (case a => (kaf_pre; done)))
  | ((with_reducible refine' v_addL ?a ?b ?e ?_); (case a => (kaf_pre; done)); (case b => (kaf_pre; done)); (case e => first | assumption | exact few2 (by simp; omega)))
  | ((with_reducible refine' v_addT ?a ?b ?e ?_); (case a => (kaf_pre; done)); (case b => (kaf_pre; done)); (case e => first | assumption | exact few2 (by simp; omega))))

local macro_rules | `(tactic| kaf_suf) => `(tactic| first
  | with_reducible refine r_gcons ?_
  | with_reducible refine r_gnil ?_
  | ((with_reducible refine' r_seqT ?a ?b ?_); (case a => (kaf_pre; done)); (case b => rfl))
  | ((with_reducible refine' r_seqL ?a ?b ?_); (case a => (kaf_pre; done)); (case b => rfl)))

local macro_rules | `(tactic| kaf_suf) => `(tactic| first
  | with_reducible refine v_inS ?_
  | with_reducible refine v_ninS ?_
  | with_reducible refine v_ltS ?_
  | ((with_reducible refine' v_addS ?a ?_); (case a => first | assumption | omega))
  | ((with_reducible refine' v_lenStr ?a ?_); (case a => first | assumption | omega))
  | ((with_reducible refine' v_listS ?a ?_); (case a => first | assumption | omega))
  | ((with_reducible refine' v_ixS ?a ?b ?_); (case a => (first | assumption | rfl)); (case b => first | assumption | omega))
  | with_reducible refine v_countS ?_
  | with_reducible refine r_kbm_s ?_)

def top (i : Nat) : Stmt := PySem.Challenge.pw_hotmoves_k73_strips.main.body.getD i (.Pass ⟨0, 0, 0, 0⟩)
abbrev s_is_text_of : Stmt := top 6
abbrev s_is_strip : Stmt := top 7
abbrev s_strips_behind : Stmt := top 8
abbrev s_Strips_init : Stmt := inClass (top 9) 0
abbrev s_Strips_game : Stmt := inClass (top 9) 1
abbrev s_strip_game : Stmt := top 10
abbrev s_Book_init : Stmt := inClass (top 12) 0
abbrev s_Book_need : Stmt := inClass (top 12) 1
abbrev s_Book_game : Stmt := inClass (top 12) 2
abbrev s_Book_lefts : Stmt := inClass (top 12) 3
abbrev s_Book_rights : Stmt := inClass (top 12) 4
abbrev s_Book_depth : Stmt := inClass (top 12) 5
abbrev s_Book_many : Stmt := inClass (top 12) 6
abbrev s_law_deck : Stmt := top 14
abbrev s_law_draw : Stmt := top 15
abbrev s_law_strip : Stmt := top 16
abbrev s_law_lefts : Stmt := top 17
abbrev s_law_rights : Stmt := top 18
abbrev s_law_are_few : Stmt := top 19
abbrev s_law_right : Stmt := top 20
abbrev s_law : Stmt := top 21
structure Cn where
  P : Program
  w : World
  K : PySem.W.Frag
  cGameError : Addr
  cNoGame : Addr
  cNoBoard : Addr
  cStrips : Addr
  cBook : Addr
structure Txt (c : Cn) (mg : Str → Option Value) : Prop where
  n_bool : mg "bool" = none
  n_int : mg "int" = none
  n_isinstance : mg "isinstance" = none
  n_len : mg "len" = none
  n_list : mg "list" = none
  n_max : mg "max" = none
  n_min : mg "min" = none
  n_range : mg "range" = none
  n_set : mg "set" = none
  n_sorted : mg "sorted" = none
  n_str : mg "str" = none
  n_tuple : mg "tuple" = none
  g_GameError : mg "GameError" = some (.ref c.cGameError)
  g_NoGame : mg "NoGame" = some (.ref c.cNoGame)
  g_NoBoard : mg "NoBoard" = some (.ref c.cNoBoard)
  g_Strips : mg "Strips" = some (.ref c.cStrips)
  g_Book : mg "Book" = some (.ref c.cBook)
  g_MOST_STRIP : ∃ t, mg "MOST_STRIP" = some (.int 8 t)
  cl_Strips : Cls c.K c.cStrips
  na_Strips_book : NoAttr c.K c.cStrips "book"
  na_Strips_games : NoAttr c.K c.cStrips "games"
  cl_Book : Cls c.K c.cBook
  na_Book_depths : NoAttr c.K c.cBook "depths"
  na_Book_moves : NoAttr c.K c.cBook "moves"
  na_Book_numbers : NoAttr c.K c.cBook "numbers"
  F_is_text_of : ∃ (f : Addr) (fd : FuncData), Fun c.K "is_text_of" "is_text_of" s_is_text_of f fd ∧ mg "is_text_of" = some (.ref f) ∧ Binds c.K fd ["thing", "signs"] []
  F_is_strip : ∃ (f : Addr) (fd : FuncData), Fun c.K "is_strip" "is_strip" s_is_strip f fd ∧ mg "is_strip" = some (.ref f) ∧ Binds c.K fd ["thing"] []
  F_strips_behind : ∃ (f : Addr) (fd : FuncData), Fun c.K "strips_behind" "strips_behind" s_strips_behind f fd ∧ mg "strips_behind" = some (.ref f) ∧ Binds c.K fd ["text", "mark", "way"] []
  F_Strips_init : ∃ (f : Addr) (fd : FuncData), Fun c.K "__init__" "Strips.__init__" s_Strips_init f fd ∧ Mk c.K c.cStrips f ∧ Binds c.K fd ["self", "book"] []
  F_Strips_game : ∃ (f : Addr) (fd : FuncData), Fun c.K "game" "Strips.game" s_Strips_game f fd ∧ Meth c.K c.cStrips "game" f ∧ Binds c.K fd ["self", "text"] []
  F_strip_game : ∃ (f : Addr) (fd : FuncData), Fun c.K "strip_game" "strip_game" s_strip_game f fd ∧ mg "strip_game" = some (.ref f) ∧ Binds c.K fd ["book", "strip"] []
  F_Book_init : ∃ (f : Addr) (fd : FuncData), Fun c.K "__init__" "Book.__init__" s_Book_init f fd ∧ Mk c.K c.cBook f ∧ Binds c.K fd ["self"] []
  F_Book_need : ∃ (f : Addr) (fd : FuncData), Fun c.K "need" "Book.need" s_Book_need f fd ∧ Meth c.K c.cBook "need" f ∧ Binds c.K fd ["self", "g"] []
  F_Book_game : ∃ (f : Addr) (fd : FuncData), Fun c.K "game" "Book.game" s_Book_game f fd ∧ Meth c.K c.cBook "game" f ∧ Binds c.K fd ["self", "lefts", "rights"] []
  F_Book_lefts : ∃ (f : Addr) (fd : FuncData), Fun c.K "lefts" "Book.lefts" s_Book_lefts f fd ∧ Meth c.K c.cBook "lefts" f ∧ Binds c.K fd ["self", "g"] []
  F_Book_rights : ∃ (f : Addr) (fd : FuncData), Fun c.K "rights" "Book.rights" s_Book_rights f fd ∧ Meth c.K c.cBook "rights" f ∧ Binds c.K fd ["self", "g"] []
  F_Book_depth : ∃ (f : Addr) (fd : FuncData), Fun c.K "depth" "Book.depth" s_Book_depth f fd ∧ Meth c.K c.cBook "depth" f ∧ Binds c.K fd ["self", "g"] []
  F_Book_many : ∃ (f : Addr) (fd : FuncData), Fun c.K "many" "Book.many" s_Book_many f fd ∧ Meth c.K c.cBook "many" f ∧ Binds c.K fd ["self"] []
  F_law_deck : ∃ (f : Addr) (fd : FuncData), Fun c.K "_law_deck" "_law_deck" s_law_deck f fd ∧ mg "_law_deck" = some (.ref f) ∧ Binds c.K fd ["script"] []
  F_law_draw : ∃ (f : Addr) (fd : FuncData), Fun c.K "_law_draw" "_law_draw" s_law_draw f fd ∧ mg "_law_draw" = some (.ref f) ∧ Binds c.K fd ["deck", "many"] []
  F_law_strip : ∃ (f : Addr) (fd : FuncData), Fun c.K "_law_strip" "_law_strip" s_law_strip f fd ∧ mg "_law_strip" = some (.ref f) ∧ Binds c.K fd ["deck"] []
  F_law_lefts : ∃ (f : Addr) (fd : FuncData), Fun c.K "_law_lefts" "_law_lefts" s_law_lefts f fd ∧ mg "_law_lefts" = some (.ref f) ∧ Binds c.K fd ["strip"] []
  F_law_rights : ∃ (f : Addr) (fd : FuncData), Fun c.K "_law_rights" "_law_rights" s_law_rights f fd ∧ mg "_law_rights" = some (.ref f) ∧ Binds c.K fd ["strip"] []
  F_law_are_few : ∃ (f : Addr) (fd : FuncData), Fun c.K "_law_are_few" "_law_are_few" s_law_are_few f fd ∧ mg "_law_are_few" = some (.ref f) ∧ Binds c.K fd ["strip"] []
  F_law_right : ∃ (f : Addr) (fd : FuncData), Fun c.K "_law_right" "_law_right" s_law_right f fd ∧ mg "_law_right" = some (.ref f) ∧ Binds c.K fd ["book", "strip"] []
/-! the deck: what is drawn from it is any number -/
abbrev N_law_deck : List Str := ["script", "pools", "k", "cell"]
theorem sc_law_deck : FnScope N_law_deck ["script"] (defScope s_law_deck) := ⟨rfl, rfl, rfl, by decide +kernel, rfl, by decide +kernel, by decide +kernel⟩
def t_law_deck (c : Cn) : TS :=
  (tSeq (tAsg (tLst tNil) (gName 1))
  (tSeq (tFor (iRng1 (tCons (tCB (kMax c.K) (tCons (tC (.int 1)) (tCons (tCB (kMin c.K) (tCons (tC (.int 63)) (tCons (tCB (kLen c.K) (tCons (tVar 0) tNil)) tNil))) tNil))) tNil)) (gName 2)
  (tSeq (tAsg (tC (.int 0)) (gName 3))
  (C8.tCut (tIfS (tTest (tOp (cLt c.K) (tVar 2) (tCB (kLen c.K) (tCons (tVar 0) tNil))))
  (tAsg (tOp (bIx c.P c.w c.K) (tVar 0) (tVar 2)) (gName 3))
  tNext)
  (tDrop (tBM c.K "list" rAppend (tVar 1) (tCons (tLst (tCons (tVar 3) (tCons (tCB kInt (tCons (tOp cGe (tVar 3) (tOp bPow (tC (.int 10)) (tC (.int 18)))) tNil)) (tCons (tOp bMul (tC (.int 31)) (tVar 2)) tNil)))) tNil))))))
  (tRet (tLst (tCons (tVar 1) (tCons (tC (.int 0)) tNil))))))
abbrev N_law_draw : List Str := ["deck", "many", "pool", "found", "number"]
theorem sc_law_draw : FnScope N_law_draw ["deck", "many"] (defScope s_law_draw) := ⟨rfl, rfl, rfl, by decide +kernel, rfl, by decide +kernel, by decide +kernel⟩
def t_law_draw (c : Cn) : TS :=
  (tSeq (tAsg (tOp (bIx c.P c.w c.K) (tOp (bIx c.P c.w c.K) (tVar 0) (tC (.int 0))) (tOp bMod (tOp (bIx c.P c.w c.K) (tVar 0) (tC (.int 1))) (tCB (kLen c.K) (tCons (tOp (bIx c.P c.w c.K) (tVar 0) (tC (.int 0))) tNil)))) (gName 2))
  (tSeq (tAsg (tOp (bAdd c.K) (tOp (bIx c.P c.w c.K) (tVar 0) (tC (.int 1))) (tC (.int 1))) (gSub (tVar 0) (tC (.int 1)) (bSet c.P c.w)))
  (tSeq (tIfS (tAnd (tTest (tOp (cEq c.K) (tOp (bIx c.P c.w c.K) (tVar 2) (tC (.int 1))) (tC (.int 1)))) (tTest (tOp cGt (tOp (bIx c.P c.w c.K) (tVar 2) (tC (.int 0))) (tC (.int 0)))))
  (tSeq (tAsg (tOp bMod (tOp (bIx c.P c.w c.K) (tVar 2) (tC (.int 0))) (tVar 1)) (gName 3))
  (tSeq (tAsg (tOp bDiv (tOp (bIx c.P c.w c.K) (tVar 2) (tC (.int 0))) (tVar 1)) (gSub (tVar 2) (tC (.int 0)) (bSet c.P c.w)))
  (tRet (tVar 3))))
  tNext)
  (tSeq (tAsg (tOp (bAdd c.K) (tOp (bIx c.P c.w c.K) (tVar 2) (tC (.int 2))) (tC (.int 1))) (gSub (tVar 2) (tC (.int 2)) (bSet c.P c.w)))
  (tSeq (tAsg (tOp bMod (tOp (bAdd c.K) (tOp bMod (tOp (bIx c.P c.w c.K) (tVar 2) (tC (.int 0))) (tC (.int 99999999977))) (tOp bMul (tC (.int 700001)) (tOp (bIx c.P c.w c.K) (tVar 2) (tC (.int 2))))) (tC (.int 99999999947))) (gName 4))
  (tSeq (tAsg (tOp bMod (tOp bMul (tVar 4) (tVar 4)) (tC (.int 99999999821))) (gName 4))
  (tSeq (tAsg (tOp bMod (tOp bMul (tVar 4) (tOp (bAdd c.K) (tVar 4) (tC (.int 19)))) (tC (.int 9999999967))) (gName 4))
  (tRet (tOp bMod (tOp bDiv (tVar 4) (tC (.int 13))) (tVar 1))))))))))
structure DeckAt (H : Hp) (d : Addr) (M : Addr → Prop) : Prop where
  ex : ∃ (pl : Addr) (ps : List Addr) (i : Int), H d = some (.lst [.ref pl, .int i]) ∧ 0 ≤ i ∧ H pl = some (.lst (ps.map V.ref)) ∧ ps ≠ [] ∧ d ≠ pl ∧ M d ∧ M pl ∧
    (∀ q ∈ ps, M q ∧ q ≠ d ∧ q ≠ pl ∧ ∃ a b k, H q = some (.lst [.int a, .int b, .int k])) ∧ ∀ x, M x → x = d ∨ x = pl ∨ x ∈ ps
theorem keep_noneM {M : Addr → Prop} {H H' : Hp} {p : Addr} (k : Keep M H H') (n : ¬ M p) (h : H' p = none) : H p = none := by
  cases e : H p with
  | none => rfl
  | some o => rw [k p o n e] at h; cases h
theorem DeckAt.dom {H : Hp} {d : Addr} {M : Addr → Prop} (D : DeckAt H d M) {x : Addr} (h : M x) : H x ≠ none := by
  obtain ⟨pl, ps, i, h1, _, h2, _, _, _, _, h3, h4⟩ := D.ex
  rcases h4 x h with rfl | rfl | hx
  · rw [h1]; simp
  · rw [h2]; simp
  · obtain ⟨_, _, _, a, b, k, e⟩ := h3 x hx
    rw [e]; simp
theorem DeckAt.new {H : Hp} {d : Addr} {M : Addr → Prop} (D : DeckAt H d M) {x : Addr} (h : H x = none) : ¬ M x := fun z => D.dom z h
theorem DeckAt.keep {H H' : Hp} {d : Addr} {M N : Addr → Prop} (D : DeckAt H d M) (k : Keep N H H') (n : ∀ x, M x → ¬ N x) : DeckAt H' d M := by
  obtain ⟨pl, ps, i, h1, h0, h2, hp, ne, m1, m2, h3, h4⟩ := D.ex
  refine ⟨pl, ps, i, k _ _ (n _ m1) h1, h0, k _ _ (n _ m2) h2, hp, ne, m1, m2, fun q hq => ?_, h4⟩
  obtain ⟨m, e1, e2, a, b, c, e⟩ := h3 q hq
  exact ⟨m, e1, e2, a, b, c, k _ _ (n _ m) e⟩
def sp_law_draw (c : Cn) : Sp := fun vs H Q E => vs.length = 2 ∧ ∃ (d : Addr) (m : Int) (M : Addr → Prop), vs = [.ref d, .int m] ∧ 1 ≤ m ∧ m < 1073741824 ∧ DeckAt H d M ∧
  ∀ (H' : Hp) (n : Int), Keep M H H' → DeckAt H' d M → 0 ≤ n → n < m → Q (.int n) H'
theorem atI_get {xs : List V} {i : Int} {v : V} {n : Nat} (h : xs[n]? = some v) (e : i = n) : atI xs i = some v := by
  subst e
  have hn : n < xs.length := (List.getElem?_eq_some_iff.mp h).1
  unfold atI ixN
  rw [if_pos (Int.natCast_nonneg n), if_pos (by omega)]
  simpa using h
theorem p_law_draw {c : Cn} {mg : Str → Option Value} (T : Txt c mg) {vs : List V} {H : Hp} {Q : VK} {E : XK} (h : sp_law_draw c vs H Q E) : t_law_draw c { nx := fun _ H' => Q .non H', rt := Q } (start N_law_draw vs) H := by
  obtain ⟨_, d, m, M, rfl, m1, m2, D, k⟩ := h
  obtain ⟨pl, ps, i, h1, h0, h2, hp, ne, md, mpl, h3, h4⟩ := D.ex
  have hl : (0 : Int) < ps.length := by
    cases ps with
    | nil => exact absurd rfl hp
    | cons _ _ => simp only [List.length_cons]; omega
  have pos : (0 : Int) < (ps.map V.ref).length := by simpa using hl
  obtain ⟨q, hq, hqm⟩ : ∃ q, atI (ps.map V.ref) (i % ((ps.map V.ref).length : Int)) = some (V.ref q) ∧ q ∈ ps := by
    have b1 := Int.emod_nonneg i (Int.ne_of_gt pos)
    have b2 := Int.emod_lt_of_pos i pos
    obtain ⟨n, hn⟩ := Int.eq_ofNat_of_zero_le b1
    rw [hn] at b2 ⊢
    have lt : n < ps.length := by rw [List.length_map] at b2; omega
    exact ⟨ps[n], atI_get (n := n) (by simp [lt]) rfl, List.getElem_mem lt⟩
  obtain ⟨mq, qd, qp, a, b, k3, hq3⟩ := h3 q hqm
  -- the deck behind the turn
  have again : ∀ (H' : Hp), (∀ x o, x ≠ d → x ≠ q → H x = some o → H' x = some o) → H' d = some (.lst [.ref pl, .int (i + 1)]) → (∃ a b k, H' q = some (.lst [.int a, .int b, .int k])) → ∀ z : Int, Q (.int (z % m)) H' := by
    intro H' kp e1 e2 z
    refine k _ _ (fun x o nx hx => kp x o (fun z => nx (by rw [z]; exact md)) (fun z => nx (by rw [z]; exact mq)) hx) ⟨pl, ps, i + 1, e1, by omega, kp pl _ ne.symm qp.symm h2, hp, ne, md, mpl, fun x hx => ?_, h4⟩ (Int.emod_nonneg _ (by omega)) (Int.emod_lt_of_pos _ (by omega))
    obtain ⟨m1, n1, n2, a', b', k', e⟩ := h3 x hx
    refine ⟨m1, n1, n2, ?_⟩
    by_cases z : x = q
    · rw [z]; exact e2
    · exact ⟨a', b', k', kp x _ n1 z e⟩
  unfold t_law_draw
  repeat kaf_suf
  refine r_ite (fun e1 => ?_) (fun e1 => ?_) <;> repeat kaf_suf
  refine r_ite (fun e2 => ?_) (fun e2 => ?_) <;> repeat kaf_suf
  all_goals
    refine again _ (fun x o n1 n2 hx => ?_) ?_ ⟨_, _, _, upd_same⟩ _
    · kaf_pre
    · kaf_pre
theorem cal_law_draw {c : Cn} {mg : Str → Option Value} {base : Heap} (T : Txt c mg) : Cal c.P c.w c.K mg base CX0 1 "_law_draw" (sp_law_draw c) := by
  obtain ⟨f, fd, F, g, b⟩ := T.F_law_draw
  exact ⟨f, fd, ["deck", "many"], F.ok (k := 0) (N := N_law_draw) sc_law_draw (fun vs H Q E h => h.1) (fun cdv A outer s H vs Q E hr h => ⟨t_law_draw c, by
  exact (pss_cons (ps_set (i := 2) sc_law_draw.nd rfl (Or.inl rfl) (pe_ix (x_ix (hu64 hr)) (pe_ix (x_ix (hu64 hr)) (pv 0) pe_int (fun _ _ => rfl)) (pe_op o_mod (pe_ix (x_ix (hu64 hr)) (pv 0) pe_int (fun _ _ => rfl)) (pe_callB k_len (by rfl) T.n_len (by decide +kernel) (pa_cons (pe_ix (x_ix (hu64 hr)) (pv 0) pe_int (fun _ _ => rfl)) pa_nil))) (fun _ _ => rfl)))
  (pss_cons (ps_asg (pe_op o_add (pe_ix (x_ix (hu64 hr)) (pv 0) pe_int (fun _ _ => rfl)) pe_int) (pg_sub (pv 0) pe_int (s_set (hu64 hr))))
  (pss_cons (ps_if (PW.pt (pw_and (pt_cmpR (o_eq (hu64 hr)) (pe_ix (x_ix (hu64 hr)) (pv 2) pe_int (fun _ _ => rfl)) pe_int (nomark _)) (pw_and1 (pt_cmpR o_gt (pe_ix (x_ix (hu64 hr)) (pv 2) pe_int (fun _ _ => rfl)) pe_int (nomark _))))) (pss_cons (ps_set (i := 3) sc_law_draw.nd rfl (Or.inl rfl) (pe_op o_mod (pe_ix (x_ix (hu64 hr)) (pv 2) pe_int (fun _ _ => rfl)) (pv 1)))
  (pss_cons (ps_asg (pe_op o_div (pe_ix (x_ix (hu64 hr)) (pv 2) pe_int (fun _ _ => rfl)) (pv 1)) (pg_sub (pv 2) pe_int (s_set (hu64 hr))))
  (pss_one (ps_ret (pv 3))))) pss_nil)
  (pss_cons (ps_asg (pe_op o_add (pe_ix (x_ix (hu64 hr)) (pv 2) pe_int (fun _ _ => rfl)) pe_int) (pg_sub (pv 2) pe_int (s_set (hu64 hr))))
  (pss_cons (ps_set (i := 4) sc_law_draw.nd rfl (Or.inl rfl) (pe_op o_mod (pe_op o_add (pe_op o_mod (pe_ix (x_ix (hu64 hr)) (pv 2) pe_int (fun _ _ => rfl)) pe_int) (pe_op o_mul pe_int (pe_ix (x_ix (hu64 hr)) (pv 2) pe_int (fun _ _ => rfl)))) pe_int))
  (pss_cons (ps_set (i := 4) sc_law_draw.nd rfl (Or.inl rfl) (pe_op o_mod (pe_op o_mul (pv 4) (pv 4)) pe_int))
  (pss_cons (ps_set (i := 4) sc_law_draw.nd rfl (Or.inl rfl) (pe_op o_mod (pe_op o_mul (pv 4) (pe_op o_add (pv 4) pe_int)) pe_int))
  (pss_one (ps_ret (pe_op o_mod (pe_op o_div (pv 4) pe_int) (pv 1))))))))))), p_law_draw T h⟩), g, F.kp, b⟩
def sp_law_deck (c : Cn) : Sp := fun vs H Q E => vs.length = 1 ∧ ∃ (a : Addr) (ns : List Int), vs = [.ref a] ∧ SqL c.K H a (ns.map V.int) ∧ ns.length ≤ 63 ∧
  ∀ (H' : Hp) (d : Addr) (M : Addr → Prop), Keep Nil H H' → DeckAt H' d M → (∀ x, M x → H x = none) → Q (.ref d) H'
theorem p_law_deck {c : Cn} {mg : Str → Option Value} (T : Txt c mg) {vs : List V} {H : Hp} {Q : VK} {E : XK} (h : sp_law_deck c vs H Q E) : t_law_deck c { nx := fun _ H' => Q .non H', rt := Q } (start N_law_deck vs) H := by
  obtain ⟨_, a, ns, rfl, hs, few, k⟩ := h
  unfold t_law_deck
  repeat kaf_suf
  intro pl hpl
  have hl : (ns.map V.int).length ≤ 63 := by rw [List.length_map]; exact few
  repeat kaf_suf
  generalize hn : (if (if (↑(List.map V.int ns).length : Int) < 63 then (↑(List.map V.int ns).length : Int) else 63) > 1 then (if (↑(List.map V.int ns).length : Int) < 63 then (↑(List.map V.int ns).length : Int) else 63) else 1) = n
  have n1 : 1 ≤ n := by rw [← hn]; split <;> omega
  have n2 : n ≤ 63 := by rw [← hn]; split <;> (try split) <;> omega
  repeat kaf_suf
  refine for_range (lo := 0) (n := n.toNat) (fun i σ H' => ∃ (ps : List Addr) (x y : Option V), σ = [some (.ref a), some (.ref pl), x, y] ∧ H' pl = some (.lst (ps.map V.ref)) ∧ ps.length = i ∧ Keep Nil H H' ∧
    ∀ q ∈ ps, H q = none ∧ q ≠ pl ∧ ∃ a b c, H' q = some (.lst [.int a, .int b, .int c])) ⟨[], none, none, rfl, upd_same, rfl, Keep.alloc hpl, fun _ z => nomatch z⟩ ?_ ?_
  · rintro i σ H1 hi ⟨ps, x, y, rfl, e1, e2, kp, e3⟩
    have i63 : i < 63 := by omega
    repeat kaf_suf
    refine ⟨fun σ' H' => H' = H1 ∧ ∃ z : Int, σ' = [some (.ref a), some (.ref pl), some (.int (0 + i)), some (.int z)], ?_, ?_⟩
    · repeat kaf_suf
      refine r_ite (fun h => ?_) (fun h => ?_)
      · have lt : i < ns.length := by rw [List.length_map] at h; omega
        have hz : atI (ns.map V.int) (0 + (i : Int)) = some (V.int ns[i]) := atI_get (n := i) (by simp [lt]) (by omega)
        repeat kaf_suf
        exact ⟨rfl, _, rfl⟩
      · repeat kaf_suf
        exact ⟨rfl, _, rfl⟩
    · rintro σ' H' ⟨rfl, z, rfl⟩
      repeat kaf_suf
      intro p hp
      have npl : p ≠ pl := ne_new hp e1
      have hp0 := keep_none kp hp
      repeat kaf_suf
      refine ⟨ps ++ [p], _, _, rfl, ?_, by simp [e2], (kp.new hp).setN hpl, fun q hq => ?_⟩
      · rw [List.map_append]; exact upd_same
      · rcases List.mem_append.mp hq with hq | hq
        · obtain ⟨f1, f2, x, y, z, f3⟩ := e3 q hq
          exact ⟨f1, f2, x, y, z, by kaf_pre⟩
        · cases List.mem_singleton.mp hq
          exact ⟨hp0, npl, _, _, _, get_set npl upd_same⟩
  · rintro σ H1 ⟨ps, x, y, rfl, e1, e2, kp, e3⟩
    repeat kaf_suf
    intro d hd
    have ndp : d ≠ pl := ne_new hd e1
    refine k _ d (fun x => x = d ∨ x = pl ∨ x ∈ ps) (kp.new hd) ⟨pl, ps, 0, upd_same, Int.le_refl _, by kaf_pre, ?_, ndp, .inl rfl, .inr (.inl rfl), fun q hq => ?_, fun _ h => h⟩ fun x hx => ?_
    · intro z; rw [z] at e2; simp at e2; omega
    · obtain ⟨f1, f2, x, y, z, f3⟩ := e3 q hq
      exact ⟨.inr (.inr hq), ne_old hd f3, f2, x, y, z, by kaf_pre⟩
    · rcases hx with rfl | rfl | hx
      · exact keep_none kp hd
      · exact hpl
      · exact (e3 x hx).1
theorem cal_law_deck {c : Cn} {mg : Str → Option Value} {base : Heap} (T : Txt c mg) : Cal c.P c.w c.K mg base CX0 1 "_law_deck" (sp_law_deck c) := by
  obtain ⟨f, fd, F, g, b⟩ := T.F_law_deck
  exact ⟨f, fd, ["script"], F.ok (k := 0) (N := N_law_deck) sc_law_deck (fun vs H Q E h => h.1) (fun cdv A outer s H vs Q E hr h => ⟨t_law_deck c, by
  exact (pss_cons (ps_set (i := 1) sc_law_deck.nd rfl (Or.inl rfl) (pe_lst pa_nil))
  (pss_cons (ps_for PassesOwn.never rfl (pi_range1 rfl T.n_range (pa_cons (pe_callB (k_max rfl) (by rfl) T.n_max (by decide +kernel) (pa_cons pe_int (pa_cons (pe_callB (k_min rfl) (by rfl) T.n_min (by decide +kernel) (pa_cons pe_int (pa_cons (pe_callB k_len (by rfl) T.n_len (by decide +kernel) (pa_cons (pv 0) pa_nil)) pa_nil))) pa_nil))) pa_nil)) (pg_name (i := 2) sc_law_deck.nd rfl (Or.inl rfl))
  (pss_cons (ps_set (i := 3) sc_law_deck.nd rfl (Or.inl rfl) pe_int)
  (C8.pss_cut (ps_if (pt_cmpR (o_lt (hu64 hr)) (pv 2) (pe_callB k_len (by rfl) T.n_len (by decide +kernel) (pa_cons (pv 0) pa_nil)) (nomark _)) (pss_one (ps_set (i := 3) sc_law_deck.nd rfl (Or.inl rfl) (pe_ix (x_ix (hu64 hr)) (pv 0) (pv 2) (fun _ _ => rfl)))) pss_nil)
  (pss_one (ps_expr (pe_bm PySem.F.plainAttrs_list PySem.F.slot_list_append PySem.F.type_list_append mt_append (pv 1) (pa_cons (pe_lst (pa_cons (pv 3) (pa_cons (pe_callTy k_int (by rfl) T.n_int (by decide +kernel) (pa_cons (pe_cmpR o_ge (pv 3) (pe_op o_pow pe_int pe_int) (nomark _)) pa_nil)) (pa_cons (pe_op o_mul pe_int (pv 2)) pa_nil)))) pa_nil)))))))
  (pss_one (ps_ret (pe_lst (pa_cons (pv 1) (pa_cons pe_int pa_nil))))))), p_law_deck T h⟩), g, F.kp, b⟩

/-! the book -/
/-- the rising list of the members -/
def ins (x : Int) : List Int → List Int
  | [] => [x]
  | y :: r => if x < y then x :: y :: r else if x = y then y :: r else y :: ins x r
def canon (l : List Int) : List Int := l.foldr ins []
theorem ins_mem {x z : Int} : ∀ {l : List Int}, z ∈ ins x l ↔ z = x ∨ z ∈ l
  | [] => by simp [ins]
  | y :: r => by
    unfold ins
    split
    · simp
    · split
      · rename_i e; subst e; simp
      · rw [List.mem_cons, ins_mem, List.mem_cons]; constructor
        · rintro (h | h | h) <;> simp [h]
        · rintro (h | h | h) <;> simp [h]
theorem ins_up {x : Int} : ∀ {l : List Int}, l.Pairwise (· < ·) → (ins x l).Pairwise (· < ·)
  | [], _ => by simp [ins]
  | y :: r, h => by
    have h' := List.pairwise_cons.mp h
    unfold ins
    split
    · rename_i lt
      refine List.pairwise_cons.mpr ⟨fun z hz => ?_, h⟩
      rcases List.mem_cons.mp hz with e | hz
      · omega
      · have := h'.1 z hz; omega
    · split
      · exact h
      · refine List.pairwise_cons.mpr ⟨fun z hz => ?_, ins_up h'.2⟩
        rcases ins_mem.mp hz with e | hz
        · omega
        · exact h'.1 z hz
theorem canon_mem {z : Int} : ∀ {l : List Int}, z ∈ canon l ↔ z ∈ l
  | [] => by simp [canon]
  | y :: r => by
    show z ∈ ins y (canon r) ↔ _
    rw [ins_mem, canon_mem, List.mem_cons]
theorem canon_up : ∀ (l : List Int), (canon l).Pairwise (· < ·)
  | [] => List.Pairwise.nil
  | y :: r => ins_up (canon_up r)
theorem up_eq : ∀ {a b : List Int}, a.Pairwise (· < ·) → b.Pairwise (· < ·) → (∀ z, z ∈ a ↔ z ∈ b) → a = b
  | [], [], _, _, _ => rfl
  | [], y :: r, _, _, h => absurd ((h y).mpr List.mem_cons_self) (by simp)
  | x :: a, [], _, _, h => absurd ((h x).mp List.mem_cons_self) (by simp)
  | x :: a, y :: b, ha, hb, h => by
    have ha' := List.pairwise_cons.mp ha
    have hb' := List.pairwise_cons.mp hb
    have e : x = y := by
      rcases List.mem_cons.mp ((h x).mp List.mem_cons_self) with e | h1
      · exact e
      · rcases List.mem_cons.mp ((h y).mpr List.mem_cons_self) with e | h2
        · exact e.symm
        · have := hb'.1 x h1; have := ha'.1 y h2; omega
    subst e
    refine congrArg (x :: ·) (up_eq ha'.2 hb'.2 fun z => ⟨fun hz => ?_, fun hz => ?_⟩)
    · rcases List.mem_cons.mp ((h z).mp (List.mem_cons_of_mem _ hz)) with e | h1
      · have := ha'.1 z hz; omega
      · exact h1
    · rcases List.mem_cons.mp ((h z).mpr (List.mem_cons_of_mem _ hz)) with e | h1
      · have := hb'.1 z hz; omega
      · exact h1
theorem canon_eq {l ns : List Int} (h1 : ns.Pairwise (· < ·)) (h2 : ∀ z, z ∈ ns ↔ z ∈ l) : ns = canon l := up_eq h1 (canon_up l) fun z => by rw [h2, canon_mem]
theorem ins_len (x : Int) : ∀ (l : List Int), (ins x l).length ≤ l.length + 1
  | [] => by simp [ins]
  | y :: r => by
    have := ins_len x r
    unfold ins
    split
    · simp
    · split
      · simp
      · simp only [List.length_cons]; omega
theorem canon_len' : ∀ (l : List Int), (canon l).length ≤ l.length
  | [] => by simp [canon]
  | y :: r => by
    have h1 := canon_len' r
    have h2 := ins_len y (canon r)
    show (ins y (canon r)).length ≤ _
    simp only [List.length_cons]; omega
theorem canon_self {l : List Int} (h : l.Pairwise (· < ·)) : canon l = l := (canon_eq h fun _ => Iff.rfl).symm
/-- a game: left's moves, right's -/
abbrev Gm := List Int × List Int
def gkey (g : Gm) : NestedKey := .tup [.tup (g.1.map .num), .tup (g.2.map .num)]
theorem num_inj : ∀ {a b : List Int}, a.map NestedKey.num = b.map NestedKey.num → a = b
  | [], [], _ => rfl
  | [], _ :: _, h => by simp at h
  | _ :: _, [], h => by simp at h
  | x :: a, y :: b, h => by
    rw [List.map_cons, List.map_cons] at h
    injection h with h1 h2
    injection h1 with h1
    rw [h1, num_inj h2]
theorem gkey_inj {a b : Gm} (h : gkey a = gkey b) : a = b := by
  unfold gkey at h
  injection h with h
  injection h with h1 h2
  injection h1 with h1
  injection h2 with h2 _
  injection h2 with h2
  exact Prod.ext (num_inj h1) (num_inj h2)
/-- the depths of the moves -/
def dps (ds ms : List Int) : List Int := ms.map fun m => ds[m.toNat]?.getD 0
def deepest (ds : List Int) (ms : List Int) (d : Int) : Prop := (ms = [] → d = 0) ∧ (∀ x ∈ dps ds ms, x + 1 ≤ d) ∧ (ms ≠ [] → ∃ x ∈ dps ds ms, d = x + 1)
theorem dps_more {ds e ms : List Int} (h : ∀ m ∈ ms, 0 ≤ m ∧ m < ds.length) : dps (ds ++ e) ms = dps ds ms := by
  refine List.map_congr_left fun m hm => ?_
  obtain ⟨h1, h2⟩ := h m hm
  rw [List.getElem?_append_left (by omega)]
/-- what holds of a book's games -/
structure GOk (gs : List Gm) : Prop where
  zero : gs[0]? = some ([], [])
  nd : gs.Nodup
  up : ∀ g ∈ gs, g.1.Pairwise (· < ·) ∧ g.2.Pairwise (· < ·)
  low : ∀ (i : Nat) (g : Gm), gs[i]? = some g → ∀ m ∈ g.1 ++ g.2, 0 ≤ m ∧ m < i
/-- the depths -/
structure DOk (gs : List Gm) (ds : List Int) : Prop where
  len : ds.length = gs.length
  at_ : ∀ (i : Nat) (g : Gm) (d : Int), gs[i]? = some g → ds[i]? = some d → deepest ds (g.1 ++ g.2) d
def bookFs (mv nm dp : Addr) : List (Str × V) := [("moves", .ref mv), ("numbers", .ref nm), ("depths", .ref dp)]
theorem bookFs_moves {mv nm dp : Addr} : (bookFs mv nm dp).lookup ("moves" : Str) = some (.ref mv) := by rfl
theorem bookFs_numbers {mv nm dp : Addr} : (bookFs mv nm dp).lookup ("numbers" : Str) = some (.ref nm) := by rfl
theorem bookFs_depths {mv nm dp : Addr} : (bookFs mv nm dp).lookup ("depths" : Str) = some (.ref dp) := by rfl
theorem bookFs_need {mv nm dp : Addr} : (bookFs mv nm dp).lookup ("need" : Str) = none := by rfl
theorem bookFs_game {mv nm dp : Addr} : (bookFs mv nm dp).lookup ("game" : Str) = none := by rfl
theorem bookFs_lefts {mv nm dp : Addr} : (bookFs mv nm dp).lookup ("lefts" : Str) = none := by rfl
theorem bookFs_rights {mv nm dp : Addr} : (bookFs mv nm dp).lookup ("rights" : Str) = none := by rfl
theorem bookFs_depth {mv nm dp : Addr} : (bookFs mv nm dp).lookup ("depth" : Str) = none := by rfl
theorem bookFs_many {mv nm dp : Addr} : (bookFs mv nm dp).lookup ("many" : Str) = none := by rfl
/-- the tuple at t is the game g -/
def GAt (H : Hp) (t : Addr) (g : Gm) : Prop := ∃ a b, H t = some (.tup [.ref a, .ref b]) ∧ H a = some (.tup (g.1.map V.int)) ∧ H b = some (.tup (g.2.map V.int))
structure BookAt (c : Cn) (H : Hp) (b : Addr) (M : Addr → Prop) (gs : List Gm) (ds : List Int) : Prop where
  ok : GOk gs
  dok : DOk gs ds
  ex : ∃ (dx mv nm dp : Addr) (ts : List Addr) (xs : List NX), H b = some (.ins c.cBook dx (bookFs mv nm dp)) ∧ H mv = some (.lst (ts.map V.ref)) ∧ Paired (GAt H) ts gs ∧
    NdAt c.P c.w H nm xs ∧ xs.length = gs.length ∧ (∀ g : Gm, nval xs (gkey g) = if g ∈ gs then some (V.int (gs.idxOf g)) else none) ∧ H dp = some (.lst (ds.map V.int)) ∧
    M mv ∧ M nm ∧ M dp ∧ mv ≠ dp ∧ ∀ x, M x → x = mv ∨ x = nm ∨ x = dp
theorem BookAt.ins_ {c : Cn} {H : Hp} {b : Addr} {M : Addr → Prop} {gs : List Gm} {ds : List Int} (B : BookAt c H b M gs ds) : ∃ dx mv nm dp, H b = some (.ins c.cBook dx (bookFs mv nm dp)) := by
  obtain ⟨dx, mv, nm, dp, _, _, h, _⟩ := B.ex
  exact ⟨dx, mv, nm, dp, h⟩
theorem paired_get {α β : Type} {R : α → β → Prop} : ∀ {xs : List α} {ys : List β} {i : Nat} {y : β}, Paired R xs ys → ys[i]? = some y → ∃ x, xs[i]? = some x ∧ R x y
  | _, _, _, _, .nil, h => by simp at h
  | _, _, 0, _, .cons r _, h => by simp at h; subst h; exact ⟨_, rfl, r⟩
  | _, _, i + 1, _, .cons _ t, h => by
    obtain ⟨x, h1, h2⟩ := paired_get (i := i) t (by simpa using h)
    exact ⟨x, by simpa using h1, h2⟩
theorem paired_keep {α β : Type} {R S : α → β → Prop} {xs : List α} {ys : List β} (h : Paired R xs ys) (f : ∀ a b, R a b → S a b) : Paired S xs ys := Paired.mapP h f
theorem GAt.keep {H H' : Hp} {t : Addr} {g : Gm} (h : GAt H t g) (k : ∀ b xs, H b = some (.tup xs) → H' b = some (.tup xs)) : GAt H' t g := by
  obtain ⟨a, b, h1, h2, h3⟩ := h
  exact ⟨a, b, k _ _ h1, k _ _ h2, k _ _ h3⟩
section
variable {c : Cn} {H H' : Hp} {b : Addr} {M N : Addr → Prop} {gs : List Gm} {ds : List Int}
theorem BookAt.cell (B : BookAt c H b M gs ds) {x : Addr} (h : M x) : (∃ l, H x = some (.lst l)) ∨ ∃ φ, H x = some (.ext φ) := by
  obtain ⟨dx, mv, nm, dp, ts, xs, _, h2, _, h4, _, _, h7, _, _, _, _, h8⟩ := B.ex
  rcases h8 x h with rfl | rfl | rfl
  · exact .inl ⟨_, h2⟩
  · exact .inr ⟨_, h4.here⟩
  · exact .inl ⟨_, h7⟩
theorem BookAt.new (B : BookAt c H b M gs ds) {x : Addr} (h : H x = none) : ¬ M x := fun z => by
  rcases B.cell z with ⟨_, e⟩ | ⟨_, e⟩ <;> rw [h] at e <;> cases e
theorem BookAt.tupN (B : BookAt c H b M gs ds) {x : Addr} {l : List V} (h : H x = some (.tup l)) : ¬ M x := fun z => by
  rcases B.cell z with ⟨_, e⟩ | ⟨_, e⟩ <;> rw [h] at e <;> cases e
theorem BookAt.insN (B : BookAt c H b M gs ds) {x C dx : Addr} {l : List (Str × V)} (h : H x = some (.ins C dx l)) : ¬ M x := fun z => by
  rcases B.cell z with ⟨_, e⟩ | ⟨_, e⟩ <;> rw [h] at e <;> cases e
theorem BookAt.keep (B : BookAt c H b M gs ds) (k : Keep N H H') (n : ∀ x, N x → ∃ l, H x = some (.lst l)) (d : ∀ x, M x → ¬ N x) : BookAt c H' b M gs ds := by
  obtain ⟨dx, mv, nm, dp, ts, xs, h1, h2, h3, h4, h5, h6, h7, m1, m2, m3, ne, h8⟩ := B.ex
  have kt : ∀ q ys, H q = some (.tup ys) → H' q = some (.tup ys) := fun q ys e => k _ _ (fun z => by obtain ⟨l, e'⟩ := n q z; rw [e] at e'; cases e') e
  refine ⟨B.ok, B.dok, dx, mv, nm, dp, ts, xs, k _ _ (fun z => ?_) h1, k _ _ (d _ m1) h2, paired_keep h3 fun t g q => q.keep kt, ⟨k _ _ (d _ m2) h4.here, fun x hx => ⟨NkV.keeps kt _ _ (h4.keys x hx).1, (h4.keys x hx).2⟩⟩, h5, h6, k _ _ (d _ m3) h7, m1, m2, m3, ne, h8⟩
  obtain ⟨l, e'⟩ := n b z; rw [h1] at e'; cases e'
theorem BookAt.same (B : BookAt c H b M gs ds) (k : Keep Nil H H') : BookAt c H' b M gs ds := B.keep k (fun _ z => z.elim) fun _ _ z => z
theorem BookAt.pos (B : BookAt c H b M gs ds) : 0 < gs.length := by
  have := B.ok.zero
  exact (List.getElem?_eq_some_iff.mp this).1
end
local macro_rules | `(tactic| kaf_suf) => `(tactic| first
  | ((with_reducible refine' r_kfld ?a (Txt.cl_Book (by assumption)) (Txt.na_Book_moves (by assumption)) bookFs_moves ?_); (case a => (kaf_pre; done)))
  | ((with_reducible refine' r_kfld ?a (Txt.cl_Book (by assumption)) (Txt.na_Book_numbers (by assumption)) bookFs_numbers ?_); (case a => (kaf_pre; done)))
  | ((with_reducible refine' r_kfld ?a (Txt.cl_Book (by assumption)) (Txt.na_Book_depths (by assumption)) bookFs_depths ?_); (case a => (kaf_pre; done)))
  | ((with_reducible refine' r_kmeth ?a ?b ?_); (case a => (kaf_pre; done)); (case b => (first | exact bookFs_need | exact bookFs_game | exact bookFs_lefts | exact bookFs_rights | exact bookFs_depth | exact bookFs_many))))

abbrev N_Book_need : List Str := ["self", "g"]
theorem sc_Book_need : FnScope N_Book_need ["self", "g"] (defScope s_Book_need) := ⟨rfl, rfl, rfl, by decide +kernel, rfl, by decide +kernel, by decide +kernel⟩
def t_Book_need (c : Cn) : TS :=
  (tIfS (tOr (tNot (tTru c.K (tCB (rIsi c.K) (tCons (tVar 1) (tCons (tC (.ty "int")) tNil))))) (tOr (tTru c.K (tCB (rIsi c.K) (tCons (tVar 1) (tCons (tC (.ty "bool")) tNil)))) (tOr (tTest (tOp (cLt c.K) (tVar 1) (tC (.int 0)))) (tTest (tOp cGe (tVar 1) (tCB (kLen c.K) (tCons (tFld c.K (tVar 0) "moves") tNil)))))))
  tNever
  tNext)
def sp_Book_need (c : Cn) : Sp := fun vs H Q E => vs.length = 2 ∧ ∃ (b : Addr) (M : Addr → Prop) (gs : List Gm) (ds : List Int) (g : Int), vs = [.ref b, .int g] ∧ BookAt c H b M gs ds ∧ 0 ≤ g ∧ g < gs.length ∧ Q .non H
theorem p_Book_need {c : Cn} {mg : Str → Option Value} (T : Txt c mg) {vs : List V} {H : Hp} {Q : VK} {E : XK} (h : sp_Book_need c vs H Q E) : t_Book_need c { nx := fun _ H' => Q .non H', rt := Q } (start N_Book_need vs) H := by
  obtain ⟨_, b, M, gs, ds, g, rfl, B, g0, g1, k⟩ := h
  obtain ⟨dx, mv, nm, dp, ts, xs, h1, h2, h3, h4, h5, h6, h7, m1, m2, m3, ne, h8⟩ := B.ex
  have hl : ((ts.map V.ref).length : Int) = gs.length := by rw [List.length_map, Paired.length h3]
  unfold t_Book_need
  repeat kaf_suf
  exact k
theorem met_Book_need {c : Cn} {mg : Str → Option Value} {base : Heap} (T : Txt c mg) : Met c.P c.w c.K mg base CX0 1 c.cBook "need" (sp_Book_need c) := by
  obtain ⟨f, fd, F, g, b⟩ := T.F_Book_need
  exact ⟨f, fd, ["self", "g"], T.cl_Book, g, F.ok (k := 0) (N := N_Book_need) sc_Book_need (fun vs H Q E h => h.1) (fun cdv A outer s H vs Q E hr h => ⟨t_Book_need c, by
  exact (pss_one (ps_if (PW.pt (pw_or (pt_not (p_tru (pe_callB k_isi (by rfl) T.n_isinstance (by decide +kernel) (pa_cons (pv 1) (pa_cons (pe_bltn rfl T.n_int (by decide +kernel) rfl) pa_nil))))) (pw_or (p_tru (pe_callB k_isi (by rfl) T.n_isinstance (by decide +kernel) (pa_cons (pv 1) (pa_cons (pe_bltn rfl T.n_bool (by decide +kernel) rfl) pa_nil)))) (pw_or (pt_cmpR (o_lt (hu64 hr)) (pv 1) pe_int (nomark _)) (pw_or1 (pt_cmpR o_ge (pv 1) (pe_callB k_len (by rfl) T.n_len (by decide +kernel) (pa_cons (pe_fld (pv 0) rfl) pa_nil)) (nomark _))))))) (pss_one ps_never) pss_nil)), p_Book_need T h⟩), b⟩
/-! the games behind a putting -/
def addG (gs : List Gm) (k : Gm) : List Gm := if k ∈ gs then gs else gs ++ [k]
def ixG (gs : List Gm) (k : Gm) : Nat := gs.idxOf k
theorem nk_nums {H : Hp} : ∀ (l : List Int), NkVs H (l.map .num) (l.map V.int)
  | [] => by simp [NkVs]
  | x :: r => by
    simp only [List.map_cons, NkVs]
    exact ⟨_, _, rfl, by simp [NkV], nk_nums r⟩
theorem GAt.nk {H : Hp} {t : Addr} {g : Gm} (h : GAt H t g) : NkV H (gkey g) (.ref t) := by
  obtain ⟨a, b, h1, h2, h3⟩ := h
  unfold gkey
  simp only [NkV]
  refine ⟨t, _, rfl, h1, ?_⟩
  simp only [NkVs, NkV]
  exact ⟨_, _, rfl, ⟨a, _, rfl, h2, nk_nums _⟩, _, _, rfl, ⟨b, _, rfl, h3, nk_nums _⟩, rfl⟩
theorem dep_nums : ∀ (l : List Int), NestedKey.depthAll (l.map .num) ≤ 0
  | [] => by simp [NestedKey.depthAll]
  | x :: r => by
    have := dep_nums r
    simp only [List.map_cons, NestedKey.depthAll, NestedKey.depth]; omega
theorem gkey_depth (g : Gm) : (gkey g).depth ≤ 8 := by
  have h1 := dep_nums g.1
  have h2 := dep_nums g.2
  unfold gkey
  simp only [NestedKey.depth, NestedKey.depthAll]; omega
theorem nd_neL {P : Program} {w : World} {H : Hp} {a x : Addr} {xs : List NX} {l : List V} (N : NdAt P w H a xs) (h : H x = some (.lst l)) : x ≠ a := fun z => by
  rw [z, N.here] at h; unfold NdO at h; cases Option.some.inj h
theorem nd_neT {P : Program} {w : World} {H : Hp} {a x : Addr} {xs : List NX} {l : List V} (N : NdAt P w H a xs) (h : H x = some (.tup l)) : x ≠ a := fun z => by
  rw [z, N.here] at h; unfold NdO at h; cases Option.some.inj h
theorem nd_neI {P : Program} {w : World} {H : Hp} {a x C dx : Addr} {xs : List NX} {l : List (Str × V)} (N : NdAt P w H a xs) (h : H x = some (.ins C dx l)) : x ≠ a := fun z => by
  rw [z, N.here] at h; unfold NdO at h; cases Option.some.inj h
theorem lt_ne {H : Hp} {a x : Addr} {l m : List V} (N : H a = some (.lst m)) (h : H x = some (.tup l)) : x ≠ a := fun z => by
  rw [z, N] at h; cases h
theorem li_ne {H : Hp} {a x C dx : Addr} {l : List (Str × V)} {m : List V} (N : H a = some (.lst m)) (h : H x = some (.ins C dx l)) : x ≠ a := fun z => by
  rw [z, N] at h; cases h
theorem nput_new {xs : List NX} {k : NestedKey} {a : Addr} {v : V} (h : nval xs k = none) : nput xs k a v = xs ++ [(k, a, v)] := by
  unfold nput; rw [h]; rfl
theorem nval_snoc {xs : List NX} {k k' : NestedKey} {a : Addr} {v : V} : nval (xs ++ [(k, a, v)]) k' = (nval xs k').or (if k = k' then some v else none) := by
  unfold nval
  rw [List.find?_append]
  cases e : xs.find? fun x => decide (x.1 = k') with
  | some q => simp
  | none =>
    by_cases h : k = k'
    · simp [h]
    · simp [h]
theorem v_ninN {P : Program} {w : World} {K : PySem.W.Frag} {H : Hp} {Q : VK} {p a : Addr} {k : NestedKey} {xs : List NX} (N : NdAt P w H a xs) (kp : NkV H k (.ref p)) (d : k.depth ≤ 8) (q : Q (.bl (!(nval xs k).isSome)) H) : cNotIn P w K (.ref p) (.ref a) H Q := by
  refine .inr (.inr (.inr (.inr ⟨a, p, k, xs, rfl, rfl, N, kp, d, ?_⟩)))
  simpa using q
theorem v_inN {P : Program} {w : World} {K : PySem.W.Frag} {H : Hp} {Q : VK} {p a : Addr} {k : NestedKey} {xs : List NX} (N : NdAt P w H a xs) (kp : NkV H k (.ref p)) (d : k.depth ≤ 8) (q : Q (.bl (nval xs k).isSome) H) : cIn P w K (.ref p) (.ref a) H Q := by
  refine .inr (.inr (.inr (.inr ⟨a, p, k, xs, rfl, rfl, N, kp, d, ?_⟩)))
  simpa using q
theorem v_ixN {P : Program} {w : World} {K : PySem.W.Frag} {H : Hp} {Q : VK} {p a : Addr} {k : NestedKey} {xs : List NX} {v : V} (N : NdAt P w H a xs) (kp : NkV H k (.ref p)) (d : k.depth ≤ 8) (e : nval xs k = some v) (q : Q v H) : bIx P w K (.ref a) (.ref p) H Q :=
  .inr (.inr (.inr (.inr ⟨a, p, k, xs, v, rfl, rfl, N, kp, d, e, q⟩)))
theorem v_setN {P : Program} {w : World} {H : Hp} {Q : Hp → Prop} {p a : Addr} {k : NestedKey} {xs : List NX} {v : V} (N : NdAt P w H a xs) (kp : NkV H k (.ref p)) (d : k.depth ≤ 8) (l : xs.length < sizeLine) (q : Q (upd H a (NdO P w a (nput xs k p v)))) : bSet P w (.ref a) (.ref p) v H Q :=
  .inr (.inr ⟨a, p, k, xs, rfl, rfl, N, kp, d, l, q⟩)
theorem GOk.add {gs : List Gm} (o : GOk gs) {ls rs : List Int} (h : ∀ m ∈ ls ++ rs, 0 ≤ m ∧ m < gs.length) : GOk (addG gs (canon ls, canon rs)) := by
  unfold addG
  split
  · exact o
  · rename_i ni
    have pos : 0 < gs.length := (List.getElem?_eq_some_iff.mp o.zero).1
    refine ⟨?_, ?_, fun g hg => ?_, fun i g hi m hm => ?_⟩
    · rw [List.getElem?_append_left pos]; exact o.zero
    · refine List.nodup_append.mpr ⟨o.nd, by simp, fun a ha b hb => ?_⟩
      cases List.mem_singleton.mp hb
      exact fun z => ni (z ▸ ha)
    · rcases List.mem_append.mp hg with hg | hg
      · exact o.up g hg
      · cases List.mem_singleton.mp hg
        exact ⟨canon_up _, canon_up _⟩
    · by_cases lt : i < gs.length
      · rw [List.getElem?_append_left lt] at hi
        exact o.low i g hi m hm
      · have hl := (List.getElem?_eq_some_iff.mp hi).1
        have e : i = gs.length := by rw [List.length_append] at hl; simp at hl; omega
        subst e
        rw [List.getElem?_append_right (Nat.le_refl _)] at hi
        simp at hi
        subst hi
        rw [List.mem_append, canon_mem, canon_mem, ← List.mem_append] at hm
        exact h m hm
theorem DOk.add {gs : List Gm} {ds : List Int} (d : DOk gs ds) (o : GOk gs) {k : Gm} (h : ∀ m ∈ k.1 ++ k.2, 0 ≤ m ∧ m < gs.length) (ne : k.1 ++ k.2 ≠ []) {m : Int} (hm : m ∈ dps ds (k.1 ++ k.2)) (hx : ∀ x ∈ dps ds (k.1 ++ k.2), x ≤ m) : DOk (gs ++ [k]) (ds ++ [1 + m]) := by
  refine ⟨by simp [d.len], fun i g e hg he => ?_⟩
  by_cases lt : i < gs.length
  · rw [List.getElem?_append_left lt] at hg
    rw [List.getElem?_append_left (by rw [d.len]; exact lt)] at he
    have b : ∀ m ∈ g.1 ++ g.2, 0 ≤ m ∧ m < ds.length := fun m hm => by have := o.low i g hg m hm; rw [d.len]; omega
    unfold deepest
    rw [dps_more b]
    exact d.at_ i g e hg he
  · have hl := (List.getElem?_eq_some_iff.mp hg).1
    have e : i = gs.length := by rw [List.length_append] at hl; simp at hl; omega
    subst e
    rw [List.getElem?_append_right (Nat.le_refl _)] at hg
    rw [← d.len, List.getElem?_append_right (Nat.le_refl _)] at he
    simp at hg he
    subst hg he
    unfold deepest
    rw [dps_more (by rw [d.len]; exact h)]
    exact ⟨fun z => absurd z ne, fun x q => by have := hx x q; omega, fun _ => ⟨m, hm, by omega⟩⟩
theorem ixG_get {gs : List Gm} {k : Gm} (h : k ∈ gs) : gs[ixG gs k]? = some k := by
  have l := List.idxOf_lt_length_of_mem h
  rw [ixG, List.getElem?_eq_getElem l, List.getElem_idxOf l]
theorem addG_mem (gs : List Gm) (k : Gm) : k ∈ addG gs k := by
  unfold addG; split
  · assumption
  · simp
theorem addG_len {gs : List Gm} {k : Gm} : (addG gs k).length ≤ gs.length + 1 ∧ gs.length ≤ (addG gs k).length := by
  unfold addG; split <;> simp
theorem addG_get {gs : List Gm} {k g : Gm} {i : Nat} (h : gs[i]? = some g) : (addG gs k)[i]? = some g := by
  unfold addG; split
  · exact h
  · rw [List.getElem?_append_left (List.getElem?_eq_some_iff.mp h).1]; exact h
abbrev N_Book_game : List Str := ["self", "lefts", "rights", "g", "key"]
theorem sc_Book_game : FnScope N_Book_game ["self", "lefts", "rights"] (defScope s_Book_game) := ⟨rfl, rfl, rfl, by decide +kernel, rfl, by decide +kernel, by decide +kernel⟩
def t_Book_game (c : Cn) : TS :=
  (tSeq (tFor (iAny c.K (tOp (bAdd c.K) (tCB (kList c.K) (tCons (tVar 1) tNil)) (tCB (kList c.K) (tCons (tVar 2) tNil)))) (gName 3)
  (tDrop (tMeth c.cBook "need" (sp_Book_need c) [] E0 (tVar 0) (tCons (tVar 3) tNil))))
  (tSeq (tAsg (tTup (tCons (tCB (kTuple c.K) (tCons (tCB (kSorted c.K c.w) (tCons (tCB (uSetI c.K c.w) (tCons (tVar 1) tNil)) tNil)) tNil)) (tCons (tCB (kTuple c.K) (tCons (tCB (kSorted c.K c.w) (tCons (tCB (uSetI c.K c.w) (tCons (tVar 2) tNil)) tNil)) tNil)) tNil))) (gName 4))
  (C8.tCut (tIfS (tTest (tOp (cNotIn c.P c.w c.K) (tVar 4) (tFld c.K (tVar 0) "numbers")))
  (tSeq (tAsg (tCB (kLen c.K) (tCons (tFld c.K (tVar 0) "moves") tNil)) (gSub (tFld c.K (tVar 0) "numbers") (tVar 4) (bSet c.P c.w)))
  (tSeq (tDrop (tBM c.K "list" rAppend (tFld c.K (tVar 0) "moves") (tCons (tVar 4) tNil)))
  (tDrop (tBM c.K "list" rAppend (tFld c.K (tVar 0) "depths") (tCons (tOp (bAdd c.K) (tC (.int 1)) (tCB (kMax c.K) (tCons (tLc (iAny c.K (tOp (bAdd c.K) (tOp (bIx c.P c.w c.K) (tVar 4) (tC (.int 0))) (tOp (bIx c.P c.w c.K) (tVar 4) (tC (.int 1))))) (gName 3) tYes (tOp (bIx c.P c.w c.K) (tFld c.K (tVar 0) "depths") (tVar 3)) [3]) tNil))) tNil)))))
  tNext)
  (tRet (tOp (bIx c.P c.w c.K) (tFld c.K (tVar 0) "numbers") (tVar 4))))))
def sp_Book_game (c : Cn) : Sp := fun vs H Q E => vs.length = 3 ∧ ∃ (b l r : Addr) (M : Addr → Prop) (gs : List Gm) (ds ls rs : List Int), vs = [.ref b, .ref l, .ref r] ∧ BookAt c H b M gs ds ∧ H l = some (.lst (ls.map V.int)) ∧ H r = some (.lst (rs.map V.int)) ∧ ¬ M l ∧ ¬ M r ∧
  gs.length ≤ 90000 ∧ ls.length ≤ 4000 ∧ rs.length ≤ 4000 ∧ (∀ m ∈ ls ++ rs, 0 ≤ m ∧ m < gs.length) ∧
  ∀ (H' : Hp) (e : List Int), Keep M H H' → BookAt c H' b M (addG gs (canon ls, canon rs)) (ds ++ e) → Q (.int (ixG (addG gs (canon ls, canon rs)) (canon ls, canon rs))) H'
theorem p_Book_game {c : Cn} {mg : Str → Option Value} (T : Txt c mg) {vs : List V} {H : Hp} {Q : VK} {E : XK} (h : sp_Book_game c vs H Q E) : t_Book_game c { nx := fun _ H' => Q .non H', rt := Q } (start N_Book_game vs) H := by
  obtain ⟨_, b, l, r, M, gs, ds, ls, rs, rfl, B, hl, hr, nl, nr, fw1, fw2, fw3, low, k⟩ := h
  unfold t_Book_game
  repeat kaf_suf
  intro p1 hp1
  repeat kaf_suf
  intro p2 hp2
  repeat kaf_suf
  intro p3 hp3
  repeat kaf_suf
  have kp3 : Keep Nil H (upd (upd (upd H p1 (.lst (ls.map V.int))) p2 (.lst (rs.map V.int))) p3 (.lst (ls.map V.int ++ rs.map V.int))) := ((Keep.alloc hp1).new hp2).new hp3
  have B3 := B.same kp3
  have hl3 := kp3.get (fun z => z) hl
  have hr3 := kp3.get (fun z => z) hr
  have h3 : upd (upd (upd H p1 (.lst (ls.map V.int))) p2 (.lst (rs.map V.int))) p3 (.lst (ls.map V.int ++ rs.map V.int)) p3 = some (.lst (ls.map V.int ++ rs.map V.int)) := upd_same
  generalize hH3 : upd (upd (upd H p1 (.lst (ls.map V.int))) p2 (.lst (rs.map V.int))) p3 (.lst (ls.map V.int ++ rs.map V.int)) = H3 at kp3 B3 hl3 hr3 h3 ⊢
  refine for_list (xs := ls.map V.int ++ rs.map V.int) (fun i σ H' => H' = H3 ∧ ∃ y, σ = [some (.ref b), some (.ref l), some (.ref r), y, none]) ⟨rfl, _, rfl⟩ ?_ ?_ ?_
  · rintro i σ H' hi ⟨rfl, y, rfl⟩; exact SqL.of h3
  · rintro i x σ H' hi ⟨rfl, y, rfl⟩
    obtain ⟨m, hm, rfl⟩ : ∃ m ∈ ls ++ rs, V.int m = x := by
      rw [← List.map_append] at hi
      have := List.mem_of_getElem? hi
      exact List.mem_map.mp this
    obtain ⟨hm0, hm1⟩ := low m hm
    obtain ⟨dx, mv, nm, dp, hb3⟩ := B3.ins_
    repeat kaf_suf
    refine ⟨rfl, b, M, gs, ds, m, rfl, B3, hm0, hm1, ?_⟩
    repeat kaf_suf
    exact ⟨rfl, _, rfl⟩
  · rintro σ H' ⟨rfl, y, rfl⟩
    have w1 : ls.length ≤ 4000 := by omega
    have w2 : rs.length ≤ 4000 := by omega
    repeat kaf_suf
    intro p4 c4 hp4 _
    repeat kaf_suf
    intro ns4 p5 u4 m4 _ hp5
    repeat kaf_suf
    intro p6 hp6
    repeat kaf_suf
    intro p7 c7 hp7 _
    repeat kaf_suf
    intro ns7 p8 u7 m7 _ hp8
    repeat kaf_suf
    intro p9 hp9
    repeat kaf_suf
    intro t ht
    repeat kaf_suf
    obtain rfl : ns4 = canon ls := canon_eq u4 (by simpa using m4)
    obtain rfl : ns7 = canon rs := canon_eq u7 (by simpa using m7)
    refine absS (S := fun HT => Keep Nil H HT ∧ GAt HT t (canon ls, canon rs)) ⟨?_, p6, p9, upd_same, by kaf_pre, by kaf_pre⟩ fun HT ⟨kT, gT⟩ => ?_
    · exact (((((((kp3.new hp4).new hp5).new hp6).new hp7).new hp8).new hp9).new ht)
    have BT := B.same kT
    obtain ⟨dx, mv, nm, dp, ts, xs, h1, h2, h3, h4, h5, h6, h7, m1, m2, m3, ne, h8⟩ := BT.ex
    have hlen := BT.dok.len
    have htl := Paired.length h3
    have hv := h6 (canon ls, canon rs)
    refine ⟨fun σ' H2 => ∃ y e, σ' = [some (.ref b), some (.ref l), some (.ref r), y, some (.ref t)] ∧ Keep M H H2 ∧ BookAt c H2 b M (addG gs (canon ls, canon rs)) (ds ++ e) ∧ GAt H2 t (canon ls, canon rs), ?_, ?_⟩
    · repeat kaf_suf
      refine v_ninN h4 gT.nk (gkey_depth _) ?_
      by_cases hin : (canon ls, canon rs) ∈ gs
      · rw [hv, if_pos hin]
        repeat kaf_suf
        exact ⟨_, [], rfl, kT.weak, by rw [List.append_nil, addG, if_pos hin]; exact BT, gT⟩
      · rw [hv, if_neg hin]
        rw [if_neg hin] at hv
        refine r_kB (r_ite_nf ?_)
        repeat kaf_suf
        have e1 := nd_neL h4 h2
        have e2 := nd_neL h4 h7
        have e3 := nd_neI h4 h1
        have e4 := li_ne h2 h1
        have e5 := li_ne h7 h1
        obtain ⟨ka, kb, t1, t2, t3⟩ := id gT
        have ea1 := nd_neT h4 t1
        have ea2 := lt_ne h2 t1
        have ea3 := lt_ne h7 t1
        have eb1 := nd_neT h4 t2
        have eb2 := lt_ne h2 t2
        have eb3 := lt_ne h7 t2
        have ec1 := nd_neT h4 t3
        have ec2 := lt_ne h2 t3
        have ec3 := lt_ne h7 t3
        refine v_setN h4 gT.nk (gkey_depth _) (few1 (by omega)) ?_
        rw [nput_new hv]
        repeat kaf_suf
        have g1 := canon_len' ls
        have g2 := canon_len' rs
        intro p H' hp' kp'
        repeat kaf_suf
        intro D hD
        have hall : ∀ m ∈ canon ls ++ canon rs, 0 ≤ m ∧ m < gs.length := fun m hm => low m (by rw [List.mem_append, canon_mem, canon_mem, ← List.mem_append] at hm; exact hm)
        have hDp : H' dp = some (.lst (ds.map V.int)) := by kaf_pre
        have hlen2 : (dps ds (canon ls ++ canon rs)).length = (canon ls ++ canon rs).length := List.length_map _
        refine lc_tup (xs := (canon ls).map V.int ++ (canon rs).map V.int) (fun i H2 => H2 D = some (.lst (((dps ds (canon ls ++ canon rs)).take i).map V.int)) ∧ Keep Nil H' H2) ⟨upd_same, Keep.alloc hD⟩ ?_ ?_ ?_
        · rintro i H2 _ ⟨_, k2⟩; exact SqT.of (by kaf_pre)
        · rintro i x H2 hi ⟨e2, k2⟩
          rw [← List.map_append, List.getElem?_map] at hi
          obtain ⟨m, hm, rfl⟩ := Option.map_eq_some_iff.mp hi
          obtain ⟨b1, b2⟩ := hall m (List.mem_of_getElem? hm)
          have hm' := (List.getElem?_eq_some_iff.mp hm).1
          rw [List.length_append] at hm'
          obtain ⟨n, rfl⟩ := Int.eq_ofNat_of_zero_le b1
          have hn : n < ds.length := by omega
          have hx : atI (ds.map V.int) (n : Int) = some (V.int ds[n]) := atI_get (n := n) (by simp [hn]) rfl
          repeat kaf_suf
          refine ⟨rfl, ?_⟩
          repeat kaf_suf
          refine ⟨_, e2, few1 (by simp; omega), ?_, k2.setN hD⟩
          rw [upd_same]
          have e : (dps ds (canon ls ++ canon rs))[i]? = some ds[n] := by
            rw [dps, List.getElem?_map, hm]; simp [hn]
          rw [List.take_succ, e]; simp
        · rintro H2 ⟨e2, k2⟩
          have e3 : H2 D = some (.lst ((dps ds (canon ls ++ canon rs)).map V.int)) := by
            rw [e2, List.take_of_length_le (by rw [hlen2]; simp)]
          repeat kaf_suf
          have ea : addG gs (canon ls, canon rs) = gs ++ [(canon ls, canon rs)] := if_neg hin
          have nee : canon ls ++ canon rs ≠ [] := fun z => by
            obtain ⟨z1, z2⟩ := List.append_eq_nil_iff.mp z
            rw [z1, z2] at hin
            exact hin (List.mem_of_getElem? B.ok.zero)
          refine v_maxL e3 (by rw [hlen2]; exact List.length_pos_iff.mpr nee) fun m hm hmax => ?_
          repeat kaf_suf
          have kf : Keep M HT (upd H2 dp (.lst (ds.map V.int ++ [V.int (1 + m)]))) := Keep.set (Keep.trans (Keep.trans (Keep.set (Keep.set Keep.refl m2) m1) kp'.weak) k2.weak) m3
          have kt : ∀ q ys, HT q = some (.tup ys) → (upd H2 dp (.lst (ds.map V.int ++ [V.int (1 + m)]))) q = some (.tup ys) := fun q ys e => kf q _ (BT.tupN e) e
          have gf := gT.keep kt
          have hnm : H' nm = some (NdO c.P c.w nm (xs ++ [(gkey (canon ls, canon rs), t, V.int ((ts.map V.ref).length : Nat))])) := kp'.get (fun z => z) (get_set e1.symm upd_same)
          refine ⟨_, [1 + m], rfl, kT.weak.trans kf, ⟨B.ok.add low, ?_, dx, mv, nm, dp, ts ++ [t], xs ++ [(gkey (canon ls, canon rs), t, V.int ((ts.map V.ref).length : Nat))], ?_, ?_, ?_, ⟨?_, ?_⟩, ?_, ?_, ?_, m1, m2, m3, ne, h8⟩, gf⟩
          · rw [ea]; exact B.dok.add B.ok hall nee hm hmax
          · kaf_pre
          · rw [List.map_append]; kaf_pre
          · rw [ea]; exact Paired.snoc (paired_keep h3 fun t g q => q.keep kt) gf
          · refine get_set ?_ (k2.get (fun z => z) hnm)
            tlg_ne
          · intro x hx
            rcases List.mem_append.mp hx with hx | hx
            · exact ⟨NkV.keeps kt _ _ (h4.keys x hx).1, (h4.keys x hx).2⟩
            · cases List.mem_singleton.mp hx
              exact ⟨gf.nk, gkey_depth _⟩
          · rw [ea]; simp [h5]
          · intro g
            rw [ea, nval_snoc, h6, List.length_map, htl]
            by_cases hg : g ∈ gs
            · rw [if_pos hg, if_pos (List.mem_append_left _ hg), List.idxOf_append, if_pos hg]; rfl
            · rw [if_neg hg]
              by_cases e : g = (canon ls, canon rs)
              · subst e
                rw [if_pos rfl, if_pos (List.mem_append_right _ List.mem_cons_self), List.idxOf_append, if_neg hg]
                simp
              · rw [if_neg (fun z => e (gkey_inj z).symm), if_neg (by simp [hg, e])]; rfl
          · rw [List.map_append]; exact upd_same
    · rintro σ' H2 ⟨y', e, rfl, k2, B2, g2⟩
      obtain ⟨dx, mv, nm, dp, ts, xs, h1, h2, h3, h4, h5, h6, h7, m1, m2, m3, ne, h8⟩ := B2.ex
      repeat kaf_suf
      refine v_ixN h4 g2.nk (gkey_depth _) ((h6 _).trans (if_pos (addG_mem _ _))) ?_
      repeat kaf_suf
      exact k H2 e k2 B2
theorem met_Book_game {c : Cn} {mg : Str → Option Value} {base : Heap} (T : Txt c mg) : Met c.P c.w c.K mg base CX0 2 c.cBook "game" (sp_Book_game c) := by
  obtain ⟨f, fd, F, g, b⟩ := T.F_Book_game
  exact ⟨f, fd, ["self", "lefts", "rights"], T.cl_Book, g, F.ok (k := 1) (N := N_Book_game) sc_Book_game (fun vs H Q E h => h.1) (fun cdv A outer s H vs Q E hr h => ⟨t_Book_game c, by
  exact (pss_cons (ps_for PassesOwn.never rfl (pi_any (pe_op o_add (pe_callTy (k_list rfl) (by rfl) T.n_list (by decide +kernel) (pa_cons (pv 1) pa_nil)) (pe_callTy (k_list rfl) (by rfl) T.n_list (by decide +kernel) (pa_cons (pv 2) pa_nil)))) (pg_name (i := 3) sc_Book_game.nd rfl (Or.inl rfl))
  (pss_one (ps_expr (e_meth (met_Book_need T) hr (by decide) pass0 (pv 0) (pa_cons (pv 3) pa_nil)))))
  (pss_cons (ps_set (i := 4) sc_Book_game.nd rfl (Or.inl rfl) (pe_tup (pa_cons (pe_callTy k_tuple (by rfl) T.n_tuple (by decide +kernel) (pa_cons (pe_callB (k_sorted rfl) (by rfl) T.n_sorted (by decide +kernel) (pa_cons (pe_callTy (k_set rfl) (by rfl) T.n_set (by decide +kernel) (pa_cons (pv 1) pa_nil)) pa_nil)) pa_nil)) (pa_cons (pe_callTy k_tuple (by rfl) T.n_tuple (by decide +kernel) (pa_cons (pe_callB (k_sorted rfl) (by rfl) T.n_sorted (by decide +kernel) (pa_cons (pe_callTy (k_set rfl) (by rfl) T.n_set (by decide +kernel) (pa_cons (pv 2) pa_nil)) pa_nil)) pa_nil)) pa_nil))))
  (C8.pss_cut (ps_if (pt_cmpR (o_notin (hu65 hr)) (pv 4) (pe_fld (pv 0) rfl) (by rfl)) (pss_cons (ps_asg (pe_callB k_len (by rfl) T.n_len (by decide +kernel) (pa_cons (pe_fld (pv 0) rfl) pa_nil)) (pg_sub (pe_fld (pv 0) rfl) (pv 4) (s_set (hu64 hr))))
  (pss_cons (ps_expr (pe_bm PySem.F.plainAttrs_list PySem.F.slot_list_append PySem.F.type_list_append mt_append (pe_fld (pv 0) rfl) (pa_cons (pv 4) pa_nil)))
  (pss_one (ps_expr (pe_bm PySem.F.plainAttrs_list PySem.F.slot_list_append PySem.F.type_list_append mt_append (pe_fld (pv 0) rfl) (pa_cons (pe_op o_add pe_int (pe_callB (k_max rfl) (by rfl) T.n_max (by decide +kernel) (pa_cons (pe_lc (own := [("g", 3)]) rfl sc_Book_game.nd (pi_any (pe_op o_add (pe_ix (x_ix (hu64 hr)) (pv 4) pe_int (fun _ _ => rfl)) (pe_ix (x_ix (hu64 hr)) (pv 4) pe_int (fun _ _ => rfl)))) (blkOk_by (own := [("g", 3)]) (N := N_Book_game) (sc := defScope s_Book_game) (by decide +kernel)) (fun _ _ _ _ _ => (pg_name (i := 3) sc_Book_game.nd rfl (Or.inl rfl))) (fun _ _ _ _ _ => pts_nil) (fun _ _ _ _ _ => (pe_ix (x_ix (hu64 hr)) (pe_fld (pv 0) rfl) (pv 3) (fun _ _ => rfl)))) pa_nil))) pa_nil)))))) pss_nil)
  (pss_one (ps_ret (pe_ix (x_ix (hu64 hr)) (pe_fld (pv 0) rfl) (pv 4) (fun _ _ => rfl))))))), p_Book_game T h⟩), b⟩
/-! the book as it is made; how many -/
theorem putF_0 {x : V} : putF ("moves" : Str) x [] = [(("moves" : Str), x)] := by rfl
theorem putF_1 {x y : V} : putF ("numbers" : Str) y [(("moves" : Str), x)] = [(("moves" : Str), x), (("numbers" : Str), y)] := by
  unfold putF; rw [if_neg (by decide)]; rfl
theorem putF_2 {x y z : V} : putF ("depths" : Str) z [(("moves" : Str), x), (("numbers" : Str), y)] = [(("moves" : Str), x), (("numbers" : Str), y), (("depths" : Str), z)] := by
  unfold putF; rw [if_neg (by decide)]; unfold putF; rw [if_neg (by decide)]; rfl
theorem GOk.one : GOk [([], [])] := ⟨rfl, by simp, fun g hg => by cases List.mem_singleton.mp hg; exact ⟨List.Pairwise.nil, List.Pairwise.nil⟩, fun i g h m hm => by
  cases i with
  | zero => simp at h; subst h; simp at hm
  | succ i => simp at h⟩
theorem DOk.one : DOk [([], [])] [0] := ⟨rfl, fun i g d h hd => by
  cases i with
  | zero => simp at h hd; subst h hd; exact ⟨fun _ => rfl, fun x hx => by simp [dps] at hx, fun z => absurd rfl z⟩
  | succ i => simp at h⟩
abbrev N_Book_init : List Str := ["self"]
theorem sc_Book_init : FnScope N_Book_init ["self"] (defScope s_Book_init) := ⟨rfl, rfl, rfl, by decide +kernel, rfl, by decide +kernel, by decide +kernel⟩
def t_Book_init (c : Cn) : TS :=
  (tSeq (sFld c.K (tVar 0) (tLst (tCons (tTup (tCons (tTup tNil) (tCons (tTup tNil) tNil))) tNil)) "moves")
  (tSeq (sFld c.K (tVar 0) (uDisp1 c.P c.w (tTup (tCons (tTup tNil) (tCons (tTup tNil) tNil))) (tC (.int 0))) "numbers")
  (sFld c.K (tVar 0) (tLst (tCons (tC (.int 0)) tNil)) "depths")))
def sp_Book_init (c : Cn) : Sp := fun vs H Q E => vs.length = 1 ∧ ∃ (b dx : Addr), vs = [.ref b] ∧ H b = some (.ins c.cBook dx []) ∧
  ∀ (H' : Hp) (M : Addr → Prop), Keep (fun x => x = b) H H' → BookAt c H' b M [([], [])] [0] → (∀ x, M x → H x = none) → Q .non H'
theorem p_Book_init {c : Cn} {mg : Str → Option Value} (T : Txt c mg) {vs : List V} {H : Hp} {Q : VK} {E : XK} (h : sp_Book_init c vs H Q E) : t_Book_init c { nx := fun _ H' => Q .non H', rt := Q } (start N_Book_init vs) H := by
  obtain ⟨_, b, dx, rfl, hb, k⟩ := h
  unfold t_Book_init
  repeat kaf_suf
  intro p1 hp1
  repeat kaf_suf
  intro p2 hp2
  repeat kaf_suf
  intro p3 hp3
  repeat kaf_suf
  intro mv hmv
  repeat kaf_suf
  refine r_ksfld (by kaf_pre) (Txt.cl_Book T) (Txt.na_Book_moves T) (by decide) ?_
  repeat kaf_suf
  intro nm hnm
  repeat kaf_suf
  intro p4 hp4
  repeat kaf_suf
  intro p5 hp5
  repeat kaf_suf
  intro t ht
  repeat kaf_suf
  have w0 : nm ≠ mv := ne_new hnm (show _ = some (HO.lst [V.ref p3]) by kaf_pre)
  have w1 : b ≠ nm := ne_old hnm upd_same
  have w2 : mv ≠ b := ne_new hmv (by kaf_pre)
  have w3 : p3 ≠ mv := ne_old hmv upd_same
  have hnm0 : H nm = none := by
    have h0 := none_of_upd hnm
    exact none_of_upd (none_of_upd (none_of_upd (none_of_upd h0)))
  have hmv0 : H mv = none := none_of_upd (none_of_upd (none_of_upd hmv))
  refine ⟨gkey ([], []), t, rfl, by kaf_pre, GAt.nk (g := ([], [])) ⟨p4, p5, by kaf_pre, by kaf_pre, by kaf_pre⟩, gkey_depth _, ?_⟩
  repeat kaf_suf
  refine r_ksfld (by kaf_pre) (Txt.cl_Book T) (Txt.na_Book_numbers T) (by rw [putF_0]; simp) ?_
  repeat kaf_suf
  intro dp hdp
  repeat kaf_suf
  refine r_ksfld (by kaf_pre) (Txt.cl_Book T) (Txt.na_Book_depths T) (by rw [putF_0, putF_1]; simp) ?_
  repeat kaf_suf
  have hdp0 : H dp = none := by
    have := hdp
    repeat (first | exact this | replace this := none_of_upd this)
  have w4 : dp ≠ mv := ne_new hdp (show _ = some (HO.lst [V.ref p3]) by kaf_pre)
  have w5 : dp ≠ nm := ne_new hdp (show _ = some (NdO c.P c.w nm [(gkey ([], []), t, V.int 0)]) by kaf_pre)
  have w6 : dp ≠ b := ne_new hdp upd_same
  have x3 : p3 ≠ nm := ne_old hnm (by kaf_pre)
  have x2 : p2 ≠ nm := ne_old hnm (by kaf_pre)
  have x1 : p1 ≠ nm := ne_old hnm (by kaf_pre)
  have y3 : p3 ≠ b := ne_new hp3 (by kaf_pre)
  have y2 : p2 ≠ b := ne_new hp2 (by kaf_pre)
  have y1 : p1 ≠ b := ne_new hp1 (by kaf_pre)
  have z4 : p4 ≠ b := ne_new hp4 (by kaf_pre)
  have z5 : p5 ≠ b := ne_new hp5 (by kaf_pre)
  have z6 : t ≠ b := ne_new ht (by kaf_pre)
  have q4 : p4 ≠ nm := ne_new hp4 upd_same
  have q5 : p5 ≠ nm := ne_new hp5 (by kaf_pre)
  have q6 : t ≠ nm := ne_new ht (by kaf_pre)
  refine absQ (S := fun H' => Keep (fun x => x = b) H H' ∧ H' b = some (.ins c.cBook dx (bookFs mv nm dp)) ∧ H' mv = some (.lst [.ref p3]) ∧ H' p3 = some (.tup [.ref p1, .ref p2]) ∧ H' p1 = some (.tup []) ∧ H' p2 = some (.tup []) ∧
    H' nm = some (NdO c.P c.w nm [(gkey ([], []), t, V.int 0)]) ∧ H' t = some (.tup [.ref p4, .ref p5]) ∧ H' p4 = some (.tup []) ∧ H' p5 = some (.tup []) ∧ H' dp = some (.lst [.int 0])) ⟨?_, ?_, ?_, ?_, ?_, ?_, ?_, ?_, ?_, ?_, ?_⟩ fun HX ⟨f0, f1, f2, f3, f4, f5, f6, f7, f8, f9, f10⟩ => ?_
  · repeat (first | exact Keep.refl | refine' Keep.set ?_ rfl | refine' Keep.new ?_ (by assumption) | refine' Keep.setN ?_ (by assumption))
  · rw [putF_0, putF_1, putF_2]; exact upd_same
  · kaf_pre
  · kaf_pre
  · kaf_pre
  · kaf_pre
  · kaf_pre
  · kaf_pre
  · kaf_pre
  · kaf_pre
  · kaf_pre
  refine k HX (fun x => x = mv ∨ x = nm ∨ x = dp) f0 ⟨GOk.one, DOk.one, dx, mv, nm, dp, [p3], [(gkey ([], []), t, V.int 0)], f1, f2, .cons ⟨p1, p2, f3, f4, f5⟩ .nil, ⟨f6, fun x hx => ?_⟩, rfl, fun g => ?_, f10, .inl rfl, .inr (.inl rfl), .inr (.inr rfl), w4.symm, fun _ h => h⟩ fun x hx => ?_
  · cases List.mem_singleton.mp hx
    exact ⟨GAt.nk (g := ([], [])) ⟨p4, p5, f7, f8, f9⟩, gkey_depth _⟩
  · by_cases e : g = ([], [])
    · subst e; rfl
    · have e' : ¬ gkey ([], []) = gkey g := fun z => e (gkey_inj z).symm
      rw [if_neg (by simpa using e)]
      simp [nval, e']
  · rcases hx with rfl | rfl | rfl <;> assumption
theorem mak_Book {c : Cn} {mg : Str → Option Value} {base : Heap} (T : Txt c mg) : Mak c.P c.w c.K mg base CX0 1 "Book" c.cBook (sp_Book_init c) := by
  obtain ⟨f, fd, F, g, b⟩ := T.F_Book_init
  exact ⟨f, fd, ["self"], g, F.ok (k := 0) (N := N_Book_init) sc_Book_init (fun vs H Q E h => h.1) (fun cdv A outer s H vs Q E hr h => ⟨t_Book_init c, by
  exact (pss_cons (ps_fld (pv 0) (pe_lst (pa_cons (pe_tup (pa_cons (pe_tup pa_nil) (pa_cons (pe_tup pa_nil) pa_nil))) pa_nil)) rfl)
  (pss_cons (ps_fld (pv 0) (pe_disp1 (hu64 hr) (pe_tup (pa_cons (pe_tup pa_nil) (pa_cons (pe_tup pa_nil) pa_nil))) pe_int) rfl)
  (pss_one (ps_fld (pv 0) (pe_lst (pa_cons pe_int pa_nil)) rfl)))), p_Book_init T h⟩), T.g_Book, b⟩
abbrev N_Book_many : List Str := ["self"]
theorem sc_Book_many : FnScope N_Book_many ["self"] (defScope s_Book_many) := ⟨rfl, rfl, rfl, by decide +kernel, rfl, by decide +kernel, by decide +kernel⟩
def t_Book_many (c : Cn) : TS :=
  (tRet (tCB (kLen c.K) (tCons (tFld c.K (tVar 0) "moves") tNil)))
def sp_Book_many (c : Cn) : Sp := fun vs H Q E => vs.length = 1 ∧ ∃ (b : Addr) (M : Addr → Prop) (gs : List Gm) (ds : List Int), vs = [.ref b] ∧ BookAt c H b M gs ds ∧ Q (.int gs.length) H
theorem p_Book_many {c : Cn} {mg : Str → Option Value} (T : Txt c mg) {vs : List V} {H : Hp} {Q : VK} {E : XK} (h : sp_Book_many c vs H Q E) : t_Book_many c { nx := fun _ H' => Q .non H', rt := Q } (start N_Book_many vs) H := by
  obtain ⟨_, b, M, gs, ds, rfl, B, k⟩ := h
  obtain ⟨dx, mv, nm, dp, ts, xs, h1, h2, h3, h4, h5, h6, h7, m1, m2, m3, ne, h8⟩ := B.ex
  unfold t_Book_many
  repeat kaf_suf
  rw [List.length_map, Paired.length h3]
  exact k
theorem met_Book_many {c : Cn} {mg : Str → Option Value} {base : Heap} (T : Txt c mg) : Met c.P c.w c.K mg base CX0 1 c.cBook "many" (sp_Book_many c) := by
  obtain ⟨f, fd, F, g, b⟩ := T.F_Book_many
  exact ⟨f, fd, ["self"], T.cl_Book, g, F.ok (k := 0) (N := N_Book_many) sc_Book_many (fun vs H Q E h => h.1) (fun cdv A outer s H vs Q E hr h => ⟨t_Book_many c, by
  exact (pss_one (ps_ret (pe_callB k_len (by rfl) T.n_len (by decide +kernel) (pa_cons (pe_fld (pv 0) rfl) pa_nil)))), p_Book_many T h⟩), b⟩

/-! rows of games: a list of pairs of lists -/
def dInts (l : List Int) : PyData := .list (l.map PyData.int)
def dRow (g : Gm) : PyData := .tuple [dInts g.1, dInts g.2]
theorem eqv_ints : ∀ ns ms : List Int, PyData.eqvAll (ns.map PyData.int) (ms.map PyData.int) = decide (ns = ms)
  | [], [] => by simp [PyData.eqvAll]
  | [], _ :: _ => by simp [PyData.eqvAll]
  | _ :: _, [] => by simp [PyData.eqvAll]
  | a :: r, b :: t => by
    simp only [List.map_cons, PyData.eqvAll, PyData.eqv, eqv_ints r t]
    by_cases h : a = b <;> by_cases h' : r = t <;> simp [h, h']
theorem eqv_dInts (a b : List Int) : PyData.eqv (dInts a) (dInts b) = decide (a = b) := by
  unfold dInts; simp only [PyData.eqv]; exact eqv_ints a b
theorem eqv_dRow (g k : Gm) : PyData.eqv (dRow g) (dRow k) = decide (g = k) := by
  have e : PyData.eqv (dRow g) (dRow k) = (PyData.eqv (dInts g.1) (dInts k.1) && (PyData.eqv (dInts g.2) (dInts k.2) && true)) := by simp only [dRow, PyData.eqv, PyData.eqvAll]
  rw [e, eqv_dInts, eqv_dInts]
  obtain ⟨a, b⟩ := g; obtain ⟨a', b'⟩ := k
  by_cases h : a = a' <;> by_cases h' : b = b' <;> simp [h, h']
theorem lay_ints : ∀ ns : List Int, PyData.canLayAll0 (ns.map PyData.int) = true
  | [] => by simp [PyData.canLayAll0]
  | _ :: r => by simp [PyData.canLayAll0, PyData.canLay0, lay_ints r]
theorem dpt_ints : ∀ ns : List Int, PyData.depthAll (ns.map PyData.int) = 0
  | [] => by simp [PyData.depthAll]
  | _ :: r => by simp [PyData.depthAll, PyData.depth, dpt_ints r]
theorem dInts_lay (l : List Int) : (dInts l).canLay0 = true := by unfold dInts; simp only [PyData.canLay0]; exact lay_ints l
theorem dInts_dep (l : List Int) : (dInts l).depth = 1 := by unfold dInts; simp only [PyData.depth, dpt_ints]
theorem dRow_lay (g : Gm) : (dRow g).canLay0 = true := by simp [dRow, PyData.canLay0, PyData.canLayAll0, dInts_lay]
theorem dRow_dep (g : Gm) : (dRow g).depth = 2 := by simp [dRow, PyData.depth, PyData.depthAll, dInts_dep]
theorem dRows_lay : ∀ gs : List Gm, PyData.canLayAll0 (gs.map dRow) = true
  | [] => by simp [PyData.canLayAll0]
  | g :: r => by simp [PyData.canLayAll0, dRow_lay g, dRows_lay r]
theorem dRows_dep : ∀ gs : List Gm, PyData.depthAll (gs.map dRow) ≤ 2
  | [] => by simp [PyData.depthAll]
  | g :: r => by
    have h1 := dRows_dep r
    have h2 := dRow_dep g
    simp only [List.map_cons, PyData.depthAll]; omega
theorem shaped_of {d : PyData} (h : d.canLay0 = true) (k : d.depth ≤ 64) : SeqAt.shaped d = true := by
  show (d.canLay0 && decide (d.depth ≤ 64)) = true
  rw [Bool.and_eq_true]
  exact ⟨h, decide_eq_true k⟩
theorem dInts_sh (l : List Int) : SeqAt.shaped (dInts l) = true := shaped_of (dInts_lay l) (by rw [dInts_dep]; omega)
theorem dRow_sh (g : Gm) : SeqAt.shaped (dRow g) = true := shaped_of (dRow_lay g) (by rw [dRow_dep]; omega)
theorem dRows_sh (gs : List Gm) : SeqAt.shaped (.list (gs.map dRow)) = true := shaped_of (by simp only [PyData.canLay0]; exact dRows_lay gs) (by have := dRows_dep gs; simp only [PyData.depth]; omega)
theorem dTwo_sh (a b : List Int) : SeqAt.shaped (.list [dInts a, dInts b]) = true := shaped_of (by simp [PyData.canLay0, PyData.canLayAll0, dInts_lay]) (by simp [PyData.depth, PyData.depthAll, dInts_dep])
theorem eqv_two (a b a' b' : List Int) : PyData.eqv (.list [dInts a, dInts b]) (.list [dInts a', dInts b']) = (decide (a = a') && decide (b = b')) := by
  simp only [PyData.eqv, PyData.eqvAll, eqv_dInts, Bool.and_true]
theorem dp_all {K : PySem.W.Frag} {H : Hp} : ∀ (l : List Int), DpAll K H (l.map V.int) (l.map PyData.int)
  | [] => .nil
  | x :: r => .cons (.int x) (dp_all r)
theorem dp_ints {K : PySem.W.Frag} {H : Hp} {a : Addr} {l : List Int} (h : H a = some (.lst (l.map V.int))) : Dp K H (.ref a) (dInts l) := .lst (SqL.of h) (dp_all l)
theorem dp_two {K : PySem.W.Frag} {H : Hp} {p a b : Addr} {l m : List Int} (h : H p = some (.lst [.ref a, .ref b])) (h1 : H a = some (.lst (l.map V.int))) (h2 : H b = some (.lst (m.map V.int))) : Dp K H (.ref p) (.list [dInts l, dInts m]) :=
  .lst (SqL.of h) (.cons (dp_ints h1) (.cons (dp_ints h2) .nil))
def RowAt (W : Addr → Prop) (H : Hp) (t : Addr) (g : Gm) : Prop := ∃ a b, H t = some (.tup [.ref a, .ref b]) ∧ H a = some (.lst (g.1.map V.int)) ∧ H b = some (.lst (g.2.map V.int)) ∧ ¬ W t ∧ ¬ W a ∧ ¬ W b
theorem RowAt.keep {W : Addr → Prop} {H H' : Hp} {t : Addr} {g : Gm} (r : RowAt W H t g) (k : Keep W H H') : RowAt W H' t g := by
  obtain ⟨a, b, h1, h2, h3, n1, n2, n3⟩ := r
  exact ⟨a, b, k _ _ n1 h1, k _ _ n2 h2, k _ _ n3 h3, n1, n2, n3⟩
theorem RowAt.dp {K : PySem.W.Frag} {W : Addr → Prop} {H : Hp} {t : Addr} {g : Gm} (r : RowAt W H t g) : Dp K H (.ref t) (dRow g) := by
  obtain ⟨a, b, h1, h2, h3, _⟩ := r
  exact .tup (SqT.of h1) (.cons (dp_ints h2) (.cons (dp_ints h3) .nil))
def RowsAt (W : Addr → Prop) (H : Hp) (R : Addr) (gs : List Gm) : Prop := ∃ ks : List Addr, H R = some (.lst (ks.map V.ref)) ∧ Paired (RowAt W H) ks gs
theorem rows_dp {K : PySem.W.Frag} {W : Addr → Prop} {H : Hp} {ks : List Addr} {gs : List Gm} (p : Paired (RowAt W H) ks gs) : DpAll K H (ks.map V.ref) (gs.map dRow) := by
  induction p with
  | nil => exact .nil
  | cons r _ ih => exact .cons r.dp ih
theorem RowsAt.dp {K : PySem.W.Frag} {W : Addr → Prop} {H : Hp} {R : Addr} {gs : List Gm} (r : RowsAt W H R gs) : Dp K H (.ref R) (.list (gs.map dRow)) := by
  obtain ⟨ks, h, p⟩ := r
  exact .lst (SqL.of h) (rows_dp p)
theorem any_row (gs : List Gm) (k : Gm) : ((gs.map dRow).any fun z => PyData.eqv z (dRow k)) = decide (k ∈ gs) := by
  rw [List.any_map]
  have e : ((fun z => PyData.eqv z (dRow k)) ∘ dRow) = fun g => decide (g = k) := by funext g; exact eqv_dRow g k
  rw [e]
  by_cases h : k ∈ gs
  · rw [decide_eq_true h]; exact List.any_eq_true.mpr ⟨k, h, by simp⟩
  · rw [decide_eq_false h]; exact List.any_eq_false.mpr fun x hx => by simp; intro z; exact h (z ▸ hx)
theorem v_ninRows {P : Program} {w : World} {K : PySem.W.Frag} {W : Addr → Prop} {H : Hp} {Q : VK} {t R : Addr} {k : Gm} {gs : List Gm} (r : RowsAt W H R gs) (h : RowAt W H t k) (q : Q (.bl (!decide (k ∈ gs))) H) : cNotIn P w K (.ref t) (.ref R) H Q :=
  .inr (.inl ⟨_, _, h.dp, r.dp, dRow_sh _, dRows_sh _, by rw [any_row]; exact q⟩)
theorem v_indexRows {K : PySem.W.Frag} {W : Addr → Prop} {H : Hp} {Q : VK} {t R : Addr} {k : Gm} {gs : List Gm} (r : RowsAt W H R gs) (h : RowAt W H t k) (m : k ∈ gs) (q : Q (.int (ixG gs k)) H) : kIndex K (.ref R) [.ref t] H Q := by
  refine .inr ⟨R, .ref t, dRow k, gs.map dRow, ixG gs k, dRow k, rfl, rfl, r.dp, h.dp, dRows_sh _, dRow_sh _, ?_, by rw [eqv_dRow]; simp, fun j z hj hz => ?_, q⟩
  · rw [List.getElem?_map, ixG_get m]; rfl
  · rw [List.getElem?_map] at hz
    obtain ⟨g, hg, rfl⟩ := Option.map_eq_some_iff.mp hz
    rw [eqv_dRow]
    refine decide_eq_false fun e => ?_
    subst e
    obtain ⟨hl, hg⟩ := List.getElem?_eq_some_iff.mp hg
    have := List.not_of_lt_findIdx (p := fun x => x == g) (xs := gs) (i := j) hj
    simp [hg] at this
theorem up_len : ∀ (l : List Int) (lo n : Int), l.Pairwise (· < ·) → (∀ x ∈ l, lo ≤ x ∧ x < n) → lo ≤ n → (l.length : Int) ≤ n - lo
  | [], lo, n, _, _, h => by simp; omega
  | x :: r, lo, n, u, b, _ => by
    have u' := List.pairwise_cons.mp u
    have bx := b x List.mem_cons_self
    have := up_len r (x + 1) n u'.2 (fun y hy => ⟨by have := u'.1 y hy; omega, (b y (List.mem_cons_of_mem _ hy)).2⟩) (by omega)
    simp only [List.length_cons]; omega
theorem RowsAt.keep {W : Addr → Prop} {H H' : Hp} {R : Addr} {gs : List Gm} (r : RowsAt W H R gs) (k : Keep W H H') (e : ∀ o, H R = some o → H' R = some o) : RowsAt W H' R gs := by
  obtain ⟨ks, h, p⟩ := r
  exact ⟨ks, e _ h, paired_keep p fun t g q => q.keep k⟩

/-! the depth as it is told -/
abbrev N_Book_depth : List Str := ["self", "g"]
theorem sc_Book_depth : FnScope N_Book_depth ["self", "g"] (defScope s_Book_depth) := ⟨rfl, rfl, rfl, by decide +kernel, rfl, by decide +kernel, by decide +kernel⟩
def t_Book_depth (c : Cn) : TS :=
  (tSeq (tDrop (tMeth c.cBook "need" (sp_Book_need c) [] E0 (tVar 0) (tCons (tVar 1) tNil)))
  (tRet (tOp (bIx c.P c.w c.K) (tFld c.K (tVar 0) "depths") (tVar 1))))
def sp_Book_depth (c : Cn) : Sp := fun vs H Q E => vs.length = 2 ∧ ∃ (b : Addr) (M : Addr → Prop) (gs : List Gm) (ds : List Int) (g : Nat) (e : Int), vs = [.ref b, .int g] ∧ BookAt c H b M gs ds ∧ ds[g]? = some e ∧ Q (.int e) H
theorem p_Book_depth {c : Cn} {mg : Str → Option Value} (T : Txt c mg) {vs : List V} {H : Hp} {Q : VK} {E : XK} (h : sp_Book_depth c vs H Q E) : t_Book_depth c { nx := fun _ H' => Q .non H', rt := Q } (start N_Book_depth vs) H := by
  obtain ⟨_, b, M, gs, ds, g, e, rfl, B, hg, k⟩ := h
  obtain ⟨dx, mv, nm, dp, ts, xs, h1, h2, h3, h4, h5, h6, h7, m1, m2, m3, ne, h8⟩ := B.ex
  have hl := (List.getElem?_eq_some_iff.mp hg).1
  have hn := B.dok.len
  unfold t_Book_depth
  repeat kaf_suf
  refine ⟨rfl, b, M, gs, ds, g, rfl, B, by omega, by omega, ?_⟩
  have hx : atI (ds.map V.int) (g : Int) = some (V.int e) := atI_get (n := g) (by rw [List.getElem?_map, hg]; rfl) rfl
  repeat kaf_suf
  exact k
theorem met_Book_depth {c : Cn} {mg : Str → Option Value} {base : Heap} (T : Txt c mg) : Met c.P c.w c.K mg base CX0 2 c.cBook "depth" (sp_Book_depth c) := by
  obtain ⟨f, fd, F, g, b⟩ := T.F_Book_depth
  exact ⟨f, fd, ["self", "g"], T.cl_Book, g, F.ok (k := 1) (N := N_Book_depth) sc_Book_depth (fun vs H Q E h => h.1) (fun cdv A outer s H vs Q E hr h => ⟨t_Book_depth c, by
  exact (pss_cons (ps_expr (e_meth (met_Book_need T) hr (by decide) pass0 (pv 0) (pa_cons (pv 1) pa_nil)))
  (pss_one (ps_ret (pe_ix (x_ix (hu64 hr)) (pe_fld (pv 0) rfl) (pv 1) (fun _ _ => rfl))))), p_Book_depth T h⟩), b⟩
theorem DOk.pos {gs : List Gm} {ds : List Int} (o : GOk gs) (d : DOk gs ds) : ∀ (n i : Nat), i < n → ∀ e, ds[i]? = some e → 0 ≤ e
  | 0, _, h, _, _ => by omega
  | n + 1, i, h, e, he => by
    have hi := (List.getElem?_eq_some_iff.mp he).1
    obtain ⟨g, hg⟩ : ∃ g, gs[i]? = some g := ⟨_, List.getElem?_eq_getElem (by rw [← d.len]; exact hi)⟩
    obtain ⟨d1, _, d3⟩ := d.at_ i _ e hg he
    by_cases z : g.1 ++ g.2 = []
    · have := d1 z; omega
    · obtain ⟨x, hx, ex⟩ := d3 z
      obtain ⟨m, hm, rfl⟩ := List.mem_map.mp hx
      obtain ⟨l0, l1⟩ := o.low i _ hg m hm
      have : 0 ≤ ds[m.toNat]?.getD 0 := by
        cases q : ds[m.toNat]? with
        | none => simp
        | some v => exact DOk.pos o d n m.toNat (by omega) v q
      omega

/-! the moves as they are told -/
abbrev N_Book_lefts : List Str := ["self", "g"]
theorem sc_Book_lefts : FnScope N_Book_lefts ["self", "g"] (defScope s_Book_lefts) := ⟨rfl, rfl, rfl, by decide +kernel, rfl, by decide +kernel, by decide +kernel⟩
def t_Book_lefts (c : Cn) : TS :=
  (tSeq (tDrop (tMeth c.cBook "need" (sp_Book_need c) [] E0 (tVar 0) (tCons (tVar 1) tNil)))
  (tRet (tCB (kList c.K) (tCons (tOp (bIx c.P c.w c.K) (tOp (bIx c.P c.w c.K) (tFld c.K (tVar 0) "moves") (tVar 1)) (tC (.int 0))) tNil))))
def sp_Book_lefts (c : Cn) : Sp := fun vs H Q E => vs.length = 2 ∧ ∃ (b : Addr) (M : Addr → Prop) (gs : List Gm) (ds : List Int) (g : Nat) (gm : Gm), vs = [.ref b, .int g] ∧ BookAt c H b M gs ds ∧ gs[g]? = some gm ∧ ∀ p, H p = none → Q (.ref p) (upd H p (.lst (gm.1.map V.int)))
theorem p_Book_lefts {c : Cn} {mg : Str → Option Value} (T : Txt c mg) {vs : List V} {H : Hp} {Q : VK} {E : XK} (h : sp_Book_lefts c vs H Q E) : t_Book_lefts c { nx := fun _ H' => Q .non H', rt := Q } (start N_Book_lefts vs) H := by
  obtain ⟨_, b, M, gs, ds, g, gm, rfl, B, hg, k⟩ := h
  obtain ⟨dx, mv, nm, dp, ts, xs, h1, h2, h3, h4, h5, h6, h7, m1, m2, m3, ne, h8⟩ := B.ex
  have hl := (List.getElem?_eq_some_iff.mp hg).1
  unfold t_Book_lefts
  repeat kaf_suf
  refine ⟨rfl, b, M, gs, ds, g, rfl, B, by omega, by omega, ?_⟩
  obtain ⟨t, ht, ka, kb, t1, t2, t3⟩ := paired_get h3 hg
  have hx : atI (ts.map V.ref) (g : Int) = some (V.ref t) := atI_get (n := g) (by rw [List.getElem?_map, ht]; rfl) rfl
  repeat kaf_suf
  exact k
theorem met_Book_lefts {c : Cn} {mg : Str → Option Value} {base : Heap} (T : Txt c mg) : Met c.P c.w c.K mg base CX0 2 c.cBook "lefts" (sp_Book_lefts c) := by
  obtain ⟨f, fd, F, g, b⟩ := T.F_Book_lefts
  exact ⟨f, fd, ["self", "g"], T.cl_Book, g, F.ok (k := 1) (N := N_Book_lefts) sc_Book_lefts (fun vs H Q E h => h.1) (fun cdv A outer s H vs Q E hr h => ⟨t_Book_lefts c, by
  exact (pss_cons (ps_expr (e_meth (met_Book_need T) hr (by decide) pass0 (pv 0) (pa_cons (pv 1) pa_nil)))
  (pss_one (ps_ret (pe_callTy (k_list rfl) (by rfl) T.n_list (by decide +kernel) (pa_cons (pe_ix (x_ix (hu64 hr)) (pe_ix (x_ix (hu64 hr)) (pe_fld (pv 0) rfl) (pv 1) (fun _ _ => rfl)) pe_int (fun _ _ => rfl)) pa_nil))))), p_Book_lefts T h⟩), b⟩
abbrev N_Book_rights : List Str := ["self", "g"]
theorem sc_Book_rights : FnScope N_Book_rights ["self", "g"] (defScope s_Book_rights) := ⟨rfl, rfl, rfl, by decide +kernel, rfl, by decide +kernel, by decide +kernel⟩
def t_Book_rights (c : Cn) : TS :=
  (tSeq (tDrop (tMeth c.cBook "need" (sp_Book_need c) [] E0 (tVar 0) (tCons (tVar 1) tNil)))
  (tRet (tCB (kList c.K) (tCons (tOp (bIx c.P c.w c.K) (tOp (bIx c.P c.w c.K) (tFld c.K (tVar 0) "moves") (tVar 1)) (tC (.int 1))) tNil))))
def sp_Book_rights (c : Cn) : Sp := fun vs H Q E => vs.length = 2 ∧ ∃ (b : Addr) (M : Addr → Prop) (gs : List Gm) (ds : List Int) (g : Nat) (gm : Gm), vs = [.ref b, .int g] ∧ BookAt c H b M gs ds ∧ gs[g]? = some gm ∧ ∀ p, H p = none → Q (.ref p) (upd H p (.lst (gm.2.map V.int)))
theorem p_Book_rights {c : Cn} {mg : Str → Option Value} (T : Txt c mg) {vs : List V} {H : Hp} {Q : VK} {E : XK} (h : sp_Book_rights c vs H Q E) : t_Book_rights c { nx := fun _ H' => Q .non H', rt := Q } (start N_Book_rights vs) H := by
  obtain ⟨_, b, M, gs, ds, g, gm, rfl, B, hg, k⟩ := h
  obtain ⟨dx, mv, nm, dp, ts, xs, h1, h2, h3, h4, h5, h6, h7, m1, m2, m3, ne, h8⟩ := B.ex
  have hl := (List.getElem?_eq_some_iff.mp hg).1
  unfold t_Book_rights
  repeat kaf_suf
  refine ⟨rfl, b, M, gs, ds, g, rfl, B, by omega, by omega, ?_⟩
  obtain ⟨t, ht, ka, kb, t1, t2, t3⟩ := paired_get h3 hg
  have hx : atI (ts.map V.ref) (g : Int) = some (V.ref t) := atI_get (n := g) (by rw [List.getElem?_map, ht]; rfl) rfl
  repeat kaf_suf
  exact k
theorem met_Book_rights {c : Cn} {mg : Str → Option Value} {base : Heap} (T : Txt c mg) : Met c.P c.w c.K mg base CX0 2 c.cBook "rights" (sp_Book_rights c) := by
  obtain ⟨f, fd, F, g, b⟩ := T.F_Book_rights
  exact ⟨f, fd, ["self", "g"], T.cl_Book, g, F.ok (k := 1) (N := N_Book_rights) sc_Book_rights (fun vs H Q E h => h.1) (fun cdv A outer s H vs Q E hr h => ⟨t_Book_rights c, by
  exact (pss_cons (ps_expr (e_meth (met_Book_need T) hr (by decide) pass0 (pv 0) (pa_cons (pv 1) pa_nil)))
  (pss_one (ps_ret (pe_callTy (k_list rfl) (by rfl) T.n_list (by decide +kernel) (pa_cons (pe_ix (x_ix (hu64 hr)) (pe_ix (x_ix (hu64 hr)) (pe_fld (pv 0) rfl) (pv 1) (fun _ _ => rfl)) pe_int (fun _ _ => rfl)) pa_nil))))), p_Book_rights T h⟩), b⟩

/-! plain helpers -/
theorem any_eq {α : Type} {f g : α → Bool} : ∀ {l : List α}, (∀ m ∈ l, f m = g m) → l.any f = l.any g
  | [], _ => rfl
  | x :: r, h => by rw [List.any_cons, List.any_cons, h x List.mem_cons_self, any_eq fun m hm => h m (List.mem_cons_of_mem _ hm)]
def mvs (gs : List Gm) (g : Nat) (s : Bool) : List Int := match gs[g]? with
  | some x => if s then x.1 else x.2
  | none => []
theorem mvs_low {gs : List Gm} (o : GOk gs) {g : Nat} {s : Bool} {m : Int} (h : m ∈ mvs gs g s) : 0 ≤ m ∧ m < g ∧ g < gs.length := by
  unfold mvs at h
  cases e : gs[g]? with
  | none => rw [e] at h; simp at h
  | some x =>
    rw [e] at h
    have hl := (List.getElem?_eq_some_iff.mp e).1
    have := o.low g x e m (by
      cases s
      · simp at h; simp [h]
      · simp at h; simp [h])
    omega
theorem mvs_more {gs f : List Gm} {g : Nat} {s : Bool} (h : g < gs.length) : mvs (gs ++ f) g s = mvs gs g s := by
  unfold mvs; rw [List.getElem?_append_left h]
theorem nodup_le {α : Type} [DecidableEq α] : ∀ (l m : List α), l.Nodup → (∀ x ∈ l, x ∈ m) → l.length ≤ m.length
  | [], _, _, _ => Nat.zero_le _
  | x :: l, m, nd, h => by
    have nd' := List.nodup_cons.mp nd
    have hx := h x List.mem_cons_self
    have := nodup_le l (m.erase x) nd'.2 fun y hy => by
      have hm := h y (List.mem_cons_of_mem _ hy)
      exact (List.mem_erase_of_ne (fun (e : y = x) => nd'.1 (by rw [← e]; exact hy))).mpr hm
    rw [List.length_erase_of_mem hx] at this
    have := List.length_pos_of_mem hx
    simp only [List.length_cons]; omega
theorem nval_nput {xs : List NX} {k : NestedKey} {a : Addr} {v : V} : nval (nput xs k a v) k = some v := by
  unfold nput
  split
  · rename_i h
    clear a
    have go : ∀ xs : List NX, (nval xs k).isSome = true → nval (xs.map fun x => if x.1 = k then (x.1, x.2.1, v) else x) k = some v := fun xs => by
      unfold nval
      induction xs with
      | nil => intro h; simp at h
      | cons p q ih =>
        intro h
        rw [List.map_cons]
        by_cases e : p.1 = k
        · rw [if_pos e, List.find?_cons_of_pos (by simp [e])]; rfl
        · rw [if_neg e, List.find?_cons_of_neg (by simp [e])]
          rw [List.find?_cons_of_neg (by simp [e])] at h
          exact ih h
    exact go xs h
  · rename_i h
    rw [nval_snoc]
    have : nval xs k = none := by
      cases e : nval xs k with
      | none => rfl
      | some v => rw [e] at h; simp at h
    rw [this]; simp
theorem nval_mem {xs : List NX} {k : NestedKey} {v : V} (h : nval xs k = some v) : ∃ x ∈ xs, x.1 = k ∧ x.2.2 = v := by
  unfold nval at h
  obtain ⟨x, hx, rfl⟩ := Option.map_eq_some_iff.mp h
  exact ⟨x, List.mem_of_find?_eq_some hx, by simpa using List.find?_some hx, rfl⟩
theorem nval_none {xs : List NX} {k : NestedKey} (h : nval xs k = none) : ∀ x ∈ xs, x.1 ≠ k := fun x hx e => by
  unfold nval at h
  rw [Option.map_eq_none_iff] at h
  have := List.find?_eq_none.mp h x hx
  simp [e] at this
theorem any_filter {α : Type} [DecidableEq α] {p : α → Bool} : ∀ (l : List α), l.any p = !decide (l.filter p = [])
  | [] => by simp
  | x :: r => by
    by_cases h : p x = true
    · simp [h]
    · simp only [Bool.not_eq_true] at h
      rw [List.any_cons, h, Bool.false_or, any_filter r]
      simp [List.filter_cons, h]
theorem BookAt.keepX {c : Cn} {H H' : Hp} {b : Addr} {M N : Addr → Prop} {gs : List Gm} {ds : List Int} (B : BookAt c H b M gs ds) (k : Keep N H H') (n : ∀ x, N x → ∃ φ, H x = some (.ext φ)) (d : ∀ x, M x → ¬ N x) : BookAt c H' b M gs ds := by
  obtain ⟨dx, mv, nm, dp, ts, xs, h1, h2, h3, h4, h5, h6, h7, m1, m2, m3, ne, h8⟩ := B.ex
  have kt : ∀ q ys, H q = some (.tup ys) → H' q = some (.tup ys) := fun q ys e => k _ _ (fun z => by obtain ⟨l, e'⟩ := n q z; rw [e] at e'; cases e') e
  refine ⟨B.ok, B.dok, dx, mv, nm, dp, ts, xs, k _ _ (fun z => ?_) h1, k _ _ (d _ m1) h2, paired_keep h3 fun t g q => q.keep kt, ⟨k _ _ (d _ m2) h4.here, fun x hx => ⟨NkV.keeps kt _ _ (h4.keys x hx).1, (h4.keys x hx).2⟩⟩, h5, h6, k _ _ (d _ m3) h7, m1, m2, m3, ne, h8⟩
  obtain ⟨l, e'⟩ := n b z; rw [h1] at e'; cases e'
theorem v_setN' {P : Program} {w : World} {H : Hp} {Q : Hp → Prop} {p a : Addr} {k : NestedKey} {xs : List NX} {v : V} (N : NdAt P w H a xs) (kp : NkV H k (.ref p)) (d : k.depth ≤ 8) (l : xs.length < sizeLine) (q : Q (upd H a (NdO P w a (nput xs k p v)))) : bSet P w (.ref a) (.ref p) v H Q := v_setN N kp d l q
theorem BookAt.keepY {c : Cn} {H H' : Hp} {b : Addr} {M N : Addr → Prop} {gs : List Gm} {ds : List Int} (B : BookAt c H b M gs ds) (k : Keep N H H') (n : ∀ x, N x → (∀ l, H x ≠ some (.tup l)) ∧ ∀ C d l, H x ≠ some (.ins C d l)) (d : ∀ x, M x → ¬ N x) : BookAt c H' b M gs ds := by
  obtain ⟨dx, mv, nm, dp, ts, xs, h1, h2, h3, h4, h5, h6, h7, m1, m2, m3, ne, h8⟩ := B.ex
  have kt : ∀ q ys, H q = some (.tup ys) → H' q = some (.tup ys) := fun q ys e => k _ _ (fun z => (n q z).1 _ e) e
  exact ⟨B.ok, B.dok, dx, mv, nm, dp, ts, xs, k _ _ (fun z => (n b z).2 _ _ _ h1) h1, k _ _ (d _ m1) h2, paired_keep h3 fun t g q => q.keep kt, ⟨k _ _ (d _ m2) h4.here, fun x hx => ⟨NkV.keeps kt _ _ (h4.keys x hx).1, (h4.keys x hx).2⟩⟩, h5, h6, k _ _ (d _ m3) h7, m1, m2, m3, ne, h8⟩
abbrev KX := Key × V
theorem valV_mem {kvs : List KX} {k : Key} {v : V} (h : valV kvs k = some v) : ∃ x ∈ kvs, x.1 = k ∧ x.2 = v := by
  unfold valV at h
  obtain ⟨x, hx, rfl⟩ := Option.map_eq_some_iff.mp h
  exact ⟨x, List.mem_of_find?_eq_some hx, by simpa using List.find?_some hx, rfl⟩
theorem valV_none {kvs : List KX} {k : Key} (h : valV kvs k = none) : ∀ x ∈ kvs, x.1 ≠ k := fun x hx e => by
  unfold valV at h
  rw [Option.map_eq_none_iff] at h
  have := List.find?_eq_none.mp h x hx
  simp [e] at this
theorem putK_new {kvs : List KX} {k : Key} {v : V} (h : valV kvs k = none) : putK kvs k v = kvs ++ [(k, v)] := by
  unfold putK
  rw [if_neg]
  intro z
  obtain ⟨x, hx, e⟩ := List.any_eq_true.mp z
  exact valV_none h x hx (by simpa using e)
theorem putK_val {kvs : List KX} {k : Key} {v : V} : valV (putK kvs k v) k = some v := by
  unfold putK
  split
  · rename_i h
    induction kvs with
    | nil => simp at h
    | cons p q ih =>
      rw [List.map_cons]
      by_cases e : p.1 = k
      · rw [if_pos e]; exact valV_pos e
      · rw [if_neg e, valV_neg e]
        exact ih (by simpa [e] using h)
  · rename_i h
    unfold valV
    rw [List.find?_append]
    have : kvs.find? (fun kv => decide (kv.1 = k)) = none := List.find?_eq_none.mpr fun x hx z => h (List.any_eq_true.mpr ⟨x, hx, z⟩)
    rw [this]; simp
theorem putK_len {kvs : List KX} {k : Key} {v : V} : kvs.length ≤ (putK kvs k v).length := by
  unfold putK; split <;> simp
theorem addG_grow {gs : List Gm} {k : Gm} : ∃ f, addG gs k = gs ++ f ∧ f.length ≤ 1 ∧ (k ∈ gs → f = []) := by
  unfold addG; split
  · exact ⟨[], by simp, by simp, fun _ => rfl⟩
  · rename_i h
    exact ⟨[k], rfl, by simp, fun z => absurd z h⟩
theorem DOk.move {gs : List Gm} {ds : List Int} (o : GOk gs) (d : DOk gs ds) {g : Nat} {gm : Gm} {dg : Int} (hg : gs[g]? = some gm) (hd : ds[g]? = some dg) {m : Int} (hm : m ∈ gm.1 ++ gm.2) : ∃ dm, ds[m.toNat]? = some dm ∧ dm + 1 ≤ dg := by
  have low := o.low g gm hg m hm
  have lg := (List.getElem?_eq_some_iff.mp hg).1
  have dl := d.len
  obtain ⟨v, hv⟩ : ∃ v, ds[m.toNat]? = some v := ⟨_, List.getElem?_eq_getElem (by omega)⟩
  refine ⟨v, hv, (d.at_ g gm dg hg hd).2.1 v ?_⟩
  unfold dps
  exact List.mem_map.mpr ⟨m, hm, by rw [hv]; rfl⟩
theorem DOk.le {gs : List Gm} {ds : List Int} (o : GOk gs) (d : DOk gs ds) : ∀ (n g : Nat), g < n → ∀ dg, ds[g]? = some dg → dg ≤ g
  | 0, _, h, _, _ => by omega
  | n + 1, g, h, dg, hd => by
    have hl := (List.getElem?_eq_some_iff.mp hd).1
    obtain ⟨gm, hg⟩ : ∃ x, gs[g]? = some x := ⟨_, List.getElem?_eq_getElem (by have := d.len; omega)⟩
    obtain ⟨p1, p2, p3⟩ := d.at_ g gm dg hg hd
    by_cases z : gm.1 ++ gm.2 = []
    · have := p1 z; omega
    · obtain ⟨u, hu, eu⟩ := p3 z
      obtain ⟨m, hm, em⟩ := List.mem_map.mp hu
      have low := o.low g gm hg m hm
      obtain ⟨v, hv⟩ : ∃ v, ds[m.toNat]? = some v := ⟨_, List.getElem?_eq_getElem (by have := d.len; omega)⟩
      have := DOk.le o d n m.toNat (by omega) v hv
      rw [hv] at em
      have em' : v = u := em
      omega
theorem mvs_dep {gs : List Gm} {ds : List Int} (o : GOk gs) (d : DOk gs ds) {g : Nat} {s : Bool} {m : Int} (h : m ∈ mvs gs g s) {dg : Int} (hd : ds[g]? = some dg) : ∃ dm, ds[m.toNat]? = some dm ∧ dm + 1 ≤ dg := by
  obtain ⟨m0, m1, m2⟩ := mvs_low o h
  have e := List.getElem?_eq_getElem m2
  refine d.move o e hd ?_
  unfold mvs at h; rw [e] at h
  cases s
  · exact List.mem_append_right _ (by simpa using h)
  · exact List.mem_append_left _ (by simpa using h)

/-! strips: the plain law -/
def OkS (l : List Nat) : Prop := l.length ≤ 8 ∧ ∀ c ∈ l, c = 76 ∨ c = 82 ∨ c = 46
/-- a hand's moves -/
inductive Mv : Bool → List Nat → List Nat → Prop
  | l1 (p q : List Nat) : Mv true (p ++ 76 :: 46 :: q) (p ++ 46 :: 76 :: q)
  | l2 (p q : List Nat) : Mv true (p ++ 76 :: 82 :: 46 :: q) (p ++ 46 :: 82 :: 76 :: q)
  | r1 (p q : List Nat) : Mv false (p ++ 46 :: 82 :: q) (p ++ 82 :: 46 :: q)
  | r2 (p q : List Nat) : Mv false (p ++ 46 :: 76 :: 82 :: q) (p ++ 82 :: 76 :: 46 :: q)
theorem Mv.ok {s : Bool} {l x : List Nat} (m : Mv s l x) (o : OkS l) : OkS x := by
  obtain ⟨h1, h2⟩ := o
  cases m <;> refine ⟨by simpa using h1, fun c hc => h2 c ?_⟩ <;> simp only [List.mem_append, List.mem_cons] at hc ⊢ <;> grind
def mu : List Nat → Nat
  | [] => 0
  | c :: r => (if c = 76 then r.length else 0) + mu r + r.count 82
theorem mu_app {a b : List Nat} (hl : a.length = b.length) (hc : a.count 82 = b.count 82) (h : mu a < mu b) : ∀ p : List Nat, mu (p ++ a) < mu (p ++ b)
  | [] => h
  | c :: p => by
    have := mu_app hl hc h p
    show (if c = 76 then (p ++ a).length else 0) + mu (p ++ a) + (p ++ a).count 82 < (if c = 76 then (p ++ b).length else 0) + mu (p ++ b) + (p ++ b).count 82
    rw [List.length_append, List.length_append, List.count_append, List.count_append, hl, hc]
    omega
theorem Mv.less {s : Bool} {l x : List Nat} (m : Mv s l x) : mu x < mu l := by
  cases m with
  | l1 p q => exact mu_app (by simp) (by simp) (by simp [mu] <;> omega) p
  | l2 p q => exact mu_app (by simp) (by simp) (by simp [mu] <;> omega) p
  | r1 p q => exact mu_app (by simp) (by simp) (by simp [mu] <;> omega) p
  | r2 p q => exact mu_app (by simp) (by simp) (by simp [mu] <;> omega) p
theorem mu_le : ∀ l : List Nat, mu l ≤ l.length * l.length
  | [] => Nat.le_refl _
  | c :: r => by
    have h1 := mu_le r
    have h2 : r.count 82 ≤ r.length := List.count_le_length
    show (if c = 76 then r.length else 0) + mu r + r.count 82 ≤ (r.length + 1) * (r.length + 1)
    rw [Nat.mul_add, Nat.add_mul]
    split <;> omega
theorem OkS.mu {l : List Nat} (o : OkS l) : mu l ≤ 64 := Nat.le_trans (mu_le l) (Nat.mul_le_mul o.1 o.1)
def gsd (gm : Gm) (s : Bool) : List Int := if s = true then gm.1 else gm.2
/-- a strip's game -/
def SN (gs : List Gm) : Nat → List Nat → Nat → Prop
  | 0, _, _ => False
  | n + 1, l, g => ∃ gm, gs[g]? = some gm ∧ (∀ s x, Mv s l x → ∃ h : Nat, (h : Int) ∈ gsd gm s ∧ SN gs n x h) ∧ ∀ s, ∀ z ∈ gsd gm s, ∃ (x : List Nat) (h : Nat), Mv s l x ∧ z = (h : Int) ∧ SN gs n x h
theorem SN.any {gs : List Gm} : ∀ {n : Nat} {l : List Nat} {g : Nat}, SN gs n l g → ∀ m, mu l < m → SN gs m l g
  | 0, _, _, h, _, _ => h.elim
  | n + 1, l, g, ⟨gm, e, a, b⟩, m, hm => by
    obtain ⟨m, rfl⟩ : ∃ k, m = k + 1 := ⟨m - 1, by omega⟩
    refine ⟨gm, e, fun s x mv => ?_, fun s z hz => ?_⟩
    · obtain ⟨h, h1, h2⟩ := a s x mv
      exact ⟨h, h1, h2.any m (by have := mv.less; omega)⟩
    · obtain ⟨x, h, mv, ez, h2⟩ := b s z hz
      exact ⟨x, h, mv, ez, h2.any m (by have := mv.less; omega)⟩
theorem SN.more {gs f : List Gm} : ∀ {n : Nat} {l : List Nat} {g : Nat}, SN gs n l g → SN (gs ++ f) n l g
  | 0, _, _, h => h
  | n + 1, l, g, ⟨gm, e, a, b⟩ => ⟨gm, by rw [List.getElem?_append_left (List.getElem?_eq_some_iff.mp e).1]; exact e, fun s x mv => by
      obtain ⟨h, h1, h2⟩ := a s x mv
      exact ⟨h, h1, h2.more⟩, fun s z hz => by
      obtain ⟨x, h, mv, ez, h2⟩ := b s z hz
      exact ⟨x, h, mv, ez, h2.more⟩⟩
theorem nodup_ix {gs : List Gm} (o : GOk gs) {g h : Nat} {gm : Gm} (a : gs[g]? = some gm) (b : gs[h]? = some gm) : g = h := by
  obtain ⟨l1, e1⟩ := List.getElem?_eq_some_iff.mp a
  obtain ⟨l2, e2⟩ := List.getElem?_eq_some_iff.mp b
  exact (List.getElem_inj o.nd).mp (e1.trans e2.symm)
theorem gm_eq {a b : Gm} (ua : a.1.Pairwise (· < ·) ∧ a.2.Pairwise (· < ·)) (ub : b.1.Pairwise (· < ·) ∧ b.2.Pairwise (· < ·)) (h : ∀ s z, z ∈ gsd a s ↔ z ∈ gsd b s) : a = b :=
  Prod.ext (up_eq ua.1 ub.1 fun z => h true z) (up_eq ua.2 ub.2 fun z => h false z)
theorem SN.uniq {gs : List Gm} (o : GOk gs) : ∀ {n m : Nat} {l : List Nat} {g h : Nat}, SN gs n l g → SN gs m l h → g = h
  | 0, _, _, _, _, a, _ => a.elim
  | _ + 1, 0, _, _, _, _, b => b.elim
  | n + 1, m + 1, l, g, h, ⟨gm, e, a, b⟩, ⟨hm, e', a', b'⟩ => by
    have em : gm = hm := gm_eq (o.up gm (List.mem_of_getElem? e)) (o.up hm (List.mem_of_getElem? e')) fun s z => by
      constructor
      · intro hz
        obtain ⟨x, k, mv, rfl, h2⟩ := b s z hz
        obtain ⟨k', h3, h4⟩ := a' s x mv
        rw [h2.uniq o h4]; exact h3
      · intro hz
        obtain ⟨x, k, mv, rfl, h2⟩ := b' s z hz
        obtain ⟨k', h3, h4⟩ := a s x mv
        rw [← h4.uniq o h2]; exact h3
    subst em
    exact nodup_ix o e e'
def SG (gs : List Gm) (l : List Nat) (g : Nat) : Prop := SN gs (mu l + 1) l g
theorem SG.more {gs f : List Gm} {l : List Nat} {g : Nat} (h : SG gs l g) : SG (gs ++ f) l g := SN.more h
theorem SG.uniq {gs : List Gm} (o : GOk gs) {l : List Nat} {g h : Nat} (a : SG gs l g) (b : SG gs l h) : g = h := SN.uniq o a b
theorem SG.inv {gs : List Gm} {l : List Nat} {g : Nat} (h : SG gs l g) : ∃ gm, gs[g]? = some gm ∧ (∀ s x, Mv s l x → ∃ h : Nat, (h : Int) ∈ gsd gm s ∧ SG gs x h) ∧ ∀ s, ∀ z ∈ gsd gm s, ∃ (x : List Nat) (h : Nat), Mv s l x ∧ z = (h : Int) ∧ SG gs x h := by
  obtain ⟨gm, e, a, b⟩ := h
  refine ⟨gm, e, fun s x mv => ?_, fun s z hz => ?_⟩
  · obtain ⟨h, h1, h2⟩ := a s x mv
    exact ⟨h, h1, h2.any _ (Nat.lt_succ_self _)⟩
  · obtain ⟨x, h, mv, ez, h2⟩ := b s z hz
    exact ⟨x, h, mv, ez, h2.any _ (Nat.lt_succ_self _)⟩
theorem SG.lt {gs : List Gm} {l : List Nat} {g : Nat} (h : SG gs l g) : g < gs.length := by
  obtain ⟨gm, e, _⟩ := h.inv
  exact (List.getElem?_eq_some_iff.mp e).1
/-- the numbers of a hand's moves -/
def MsS (gs : List Gm) (s : Bool) (l : List Nat) (ms : List Int) : Prop := (∀ x, Mv s l x → ∃ h : Nat, (h : Int) ∈ ms ∧ SG gs x h) ∧ ∀ z ∈ ms, ∃ (x : List Nat) (h : Nat), Mv s l x ∧ z = (h : Int) ∧ SG gs x h
theorem MsS.more {gs f : List Gm} {s : Bool} {l : List Nat} {ms : List Int} (m : MsS gs s l ms) : MsS (gs ++ f) s l ms := ⟨fun x mv => by
    obtain ⟨h, a, b⟩ := m.1 x mv
    exact ⟨h, a, b.more⟩, fun z hz => by
    obtain ⟨x, h, a, b, c⟩ := m.2 z hz
    exact ⟨x, h, a, b, c.more⟩⟩
theorem SG.mk {gs : List Gm} {l : List Nat} {g : Nat} {gm : Gm} (e : gs[g]? = some gm) (m : ∀ s, MsS gs s l (gsd gm s)) : SG gs l g := by
  refine ⟨gm, e, fun s x mv => ?_, fun s z hz => ?_⟩
  · obtain ⟨h, h1, h2⟩ := (m s).1 x mv
    exact ⟨h, h1, SN.any h2 _ mv.less⟩
  · obtain ⟨x, h, mv, ez, h2⟩ := (m s).2 z hz
    exact ⟨x, h, mv, ez, SN.any h2 _ mv.less⟩
theorem MsS.canon {gs : List Gm} {s : Bool} {l : List Nat} {ms : List Int} (m : MsS gs s l ms) : MsS gs s l (canon ms) := ⟨fun x mv => by
    obtain ⟨h, a, b⟩ := m.1 x mv
    exact ⟨h, canon_mem.mpr a, b⟩, fun z hz => m.2 z (canon_mem.mp hz)⟩
theorem SG.eq {gs : List Gm} (o : GOk gs) {l : List Nat} {g : Nat} {gm : Gm} (h : SG gs l g) (u : gm.1.Pairwise (· < ·) ∧ gm.2.Pairwise (· < ·)) (m : ∀ s, MsS gs s l (gsd gm s)) : gs[g]? = some gm := by
  obtain ⟨hm, e, a, b⟩ := h.inv
  have em : hm = gm := gm_eq (o.up hm (List.mem_of_getElem? e)) u fun s z => by
    constructor
    · intro hz
      obtain ⟨x, k, mv, rfl, h2⟩ := b s z hz
      obtain ⟨k', h3, h4⟩ := (m s).1 x mv
      rw [h2.uniq o h4]; exact h3
    · intro hz
      obtain ⟨x, k, mv, rfl, h2⟩ := (m s).2 z hz
      obtain ⟨k', h3, h4⟩ := a s x mv
      rw [← h4.uniq o h2]; exact h3
  rw [← em]; exact e
theorem fm_len {α β : Type} {f : α → List β} {k : Nat} : ∀ {l : List α}, (∀ x ∈ l, (f x).length = k) → (l.flatMap f).length = l.length * k
  | [], _ => by simp
  | x :: r, h => by
    rw [List.flatMap_cons, List.length_append, h x List.mem_cons_self, fm_len fun y hy => h y (List.mem_cons_of_mem _ hy), List.length_cons, Nat.succ_mul, Nat.add_comm]
def allN : Nat → List (List Nat)
  | 0 => [[]]
  | n + 1 => [] :: (allN n).flatMap fun l => [76 :: l, 82 :: l, 46 :: l]
theorem allN_len : ∀ n, 2 * (allN n).length + 1 = 3 ^ (n + 1)
  | 0 => rfl
  | n + 1 => by
    have := allN_len n
    have e : ((allN n).flatMap fun l => [76 :: l, 82 :: l, 46 :: l]).length = 3 * (allN n).length := by
      rw [fm_len (k := 3) fun _ _ => rfl, Nat.mul_comm]
    show 2 * (((allN n).flatMap fun l => [76 :: l, 82 :: l, 46 :: l]).length + 1) + 1 = 3 ^ (n + 1 + 1)
    rw [e, Nat.pow_succ]
    omega
theorem allN_mem : ∀ (n : Nat) (l : List Nat), l.length ≤ n → (∀ c ∈ l, c = 76 ∨ c = 82 ∨ c = 46) → l ∈ allN n
  | 0, l, h, _ => by
    have e : l = [] := List.length_eq_zero_iff.mp (by omega)
    subst e
    exact List.mem_cons_self
  | n + 1, [], _, _ => List.mem_cons_self
  | n + 1, c :: r, h, o => by
    refine List.mem_cons_of_mem _ (List.mem_flatMap.mpr ⟨r, allN_mem n r (by simpa using h) fun x hx => o x (List.mem_cons_of_mem _ hx), ?_⟩)
    rcases o c List.mem_cons_self with rfl | rfl | rfl <;> simp
open Classical in
noncomputable def cnt (gs : List Gm) : Nat := ((allN 8).filter fun l => decide (∃ g, SG gs l g)).length
theorem filter_le {α : Type} {p q : α → Bool} : ∀ {l : List α}, (∀ x ∈ l, p x = true → q x = true) → (l.filter p).length ≤ (l.filter q).length
  | [], _ => Nat.le_refl _
  | x :: l, h => by
    have := filter_le (l := l) fun y hy => h y (List.mem_cons_of_mem _ hy)
    have hx := h x List.mem_cons_self
    rw [List.filter_cons, List.filter_cons]
    cases hp : p x with
    | true => rw [hx hp, if_pos rfl, if_pos rfl, List.length_cons, List.length_cons]; omega
    | false =>
      rw [if_neg (fun z => by cases z)]
      split
      · rw [List.length_cons]; omega
      · exact this
theorem filter_lt {α : Type} {p q : α → Bool} : ∀ {l : List α} {a : α}, a ∈ l → (∀ x ∈ l, p x = true → q x = true) → p a = false → q a = true → (l.filter p).length + 1 ≤ (l.filter q).length
  | x :: l, a, m, h, pa, qa => by
    have hx := h x List.mem_cons_self
    have hl := filter_le (l := l) fun y hy => h y (List.mem_cons_of_mem _ hy)
    rw [List.filter_cons, List.filter_cons]
    rcases List.mem_cons.mp m with rfl | m
    · rw [pa, qa, if_neg (fun z => by cases z), if_pos rfl, List.length_cons]
      omega
    · have := filter_lt m (fun y hy => h y (List.mem_cons_of_mem _ hy)) pa qa
      cases hp : p x with
      | true => rw [hx hp, if_pos rfl, if_pos rfl, List.length_cons, List.length_cons]; omega
      | false =>
        rw [if_neg (fun z => by cases z)]
        split
        · rw [List.length_cons]; omega
        · exact this
theorem cnt_le (gs : List Gm) : cnt gs ≤ 9841 := by
  have h := allN_len 8
  have e : (3 : Nat) ^ (8 + 1) = 19683 := by decide
  have := List.length_filter_le (fun l => @decide (∃ g, SG gs l g) (Classical.propDecidable _)) (allN 8)
  unfold cnt
  omega
def InvS (gs : List Gm) : Prop := gs.length ≤ 1 + cnt gs
theorem InvS.few {gs : List Gm} (i : InvS gs) : gs.length ≤ 9842 := by
  have := cnt_le gs
  unfold InvS at i
  omega
open Classical in
theorem inv_add {gs : List Gm} (o : GOk gs) (i : InvS gs) {l : List Nat} (ok : OkS l) {a b : List Int} (ha : MsS gs true l a) (hb : MsS gs false l b) : InvS (addG gs (canon a, canon b)) ∧ SG (addG gs (canon a, canon b)) l (ixG (addG gs (canon a, canon b)) (canon a, canon b)) := by
  have ms : ∀ s, MsS gs s l (gsd (canon a, canon b) s) := fun s => by
    cases s
    · exact hb.canon
    · exact ha.canon
  have sg : SG (addG gs (canon a, canon b)) l (ixG (addG gs (canon a, canon b)) (canon a, canon b)) := by
    obtain ⟨f, e, _⟩ := addG_grow (gs := gs) (k := (canon a, canon b))
    refine SG.mk (ixG_get (addG_mem _ _)) fun s => ?_
    rw [e]
    exact (ms s).more
  refine ⟨?_, sg⟩
  by_cases h : (canon a, canon b) ∈ gs
  · rw [show addG gs (canon a, canon b) = gs from if_pos h]; exact i
  · have e : addG gs (canon a, canon b) = gs ++ [(canon a, canon b)] := if_neg h
    rw [e] at sg ⊢
    have no : ¬ ∃ g, SG gs l g := fun ⟨g, hg⟩ => h (List.mem_of_getElem? (hg.eq o ⟨canon_up a, canon_up b⟩ ms))
    have lt : cnt gs + 1 ≤ cnt (gs ++ [(canon a, canon b)]) := by
      unfold cnt
      refine filter_lt (a := l) (allN_mem 8 l ok.1 ok.2) (fun x _ hx => ?_) (decide_eq_false no) (decide_eq_true ⟨_, sg⟩)
      obtain ⟨g, hg⟩ := of_decide_eq_true hx
      exact decide_eq_true ⟨g, hg.more⟩
    unfold InvS at *
    rw [List.length_append]
    show gs.length + 1 ≤ _
    omega

/-! strips: the first walks -/
theorem lc_str {z : Str} {g : TG} {tt : TT} {te : TE} {vs : List Nat} {σ : L2.St} {H1 : Hp} {D : Addr} {Qd : Hp → Prop} (Pv : Nat → Hp → Prop) (h0 : Pv 0 (upd H1 D (.lst [])))
    (hs : ∀ i c H, z.cps.toList[i]? = some c → Pv i H → g (.str (T1 c)) (wipe σ vs) H fun σ2 H2 => wipe σ2 vs = wipe σ vs ∧ tt σ2 H2 fun b H3 =>
      if b = true then te σ2 H3 fun y H4 => ∃ acc, H4 D = some (.lst acc) ∧ acc.length < sizeLine ∧ Pv (i + 1) (upd H4 D (.lst (acc ++ [y]))) else Pv (i + 1) H3) (hd : ∀ H, Pv z.cps.toList.length H → Qd H) :
    ∃ W : Nat → Nat → Hp → Prop, (∃ m, W 0 m (upd H1 D (.lst []))) ∧ ∀ i m H, W i m H →
      ((Its z).stop i H ∧ Qd H) ∨ ((Its z).go i H ∧ ∃ Nx : Hp → Prop, (∀ H', Nx H' → ∃ m', m' < m ∧ W (i + 1) m' H') ∧ ∀ x H', (Its z).yld i H x H' → g x (wipe σ vs) H' fun σ2 H2 => wipe σ2 vs = wipe σ vs ∧ tt σ2 H2 fun b H3 =>
        if b = true then te σ2 H3 fun y H4 => ∃ acc, H4 D = some (.lst acc) ∧ acc.length < sizeLine ∧ Nx (upd H4 D (.lst (acc ++ [y]))) else Nx H3) := by
  have sz : z.cps.toList.length = z.cps.size := Array.length_toList
  refine ⟨fun i m H => m = z.cps.size - i ∧ i ≤ z.cps.size ∧ Pv i H, ⟨_, rfl, Nat.zero_le _, h0⟩, ?_⟩
  rintro i m H ⟨rfl, hi, p⟩
  by_cases lt : i < z.cps.size
  · refine .inr ⟨lt, Pv (i + 1), fun H' p' => ⟨z.cps.size - (i + 1), by omega, rfl, lt, p'⟩, fun x H' y => ?_⟩
    obtain ⟨rfl, c, hc, rfl⟩ := y
    exact hs i c H' (by rw [Array.getElem?_toList]; exact hc) p
  · have e : i = z.cps.size := by omega
    subst e
    exact .inl ⟨Nat.le_refl _, hd H (by rw [sz]; exact p)⟩
abbrev N_is_text_of : List Str := ["thing", "signs", "sign"]
theorem sc_is_text_of : FnScope N_is_text_of ["thing", "signs"] (defScope s_is_text_of) := ⟨rfl, rfl, rfl, by decide +kernel, rfl, by decide +kernel, by decide +kernel⟩
def t_is_text_of (c : Cn) : TS :=
  (tRet (tAndV (tCB (rIsi c.K) (tCons (tVar 0) (tCons (tC (.ty "str")) tNil))) (tOp (cEq c.K) (tLc (iStr (tVar 0)) (gName 2) (tTest (tOp cNotInS (tVar 2) (tVar 1))) (tVar 2) [2]) (tLst tNil))))
def sp_is_text_of (c : Cn) : Sp := fun vs H Q E => vs.length = 2 ∧ ∃ (z sg : Str), vs = [.str z, .str sg] ∧ (∀ c ∈ z.cps.toList, c ∈ sg.cps.toList) ∧ ∀ H', Keep Nil H H' → Q (.bl true) H'
theorem p_is_text_of {c : Cn} {mg : Str → Option Value} (T : Txt c mg) {vs : List V} {H : Hp} {Q : VK} {E : XK} (h : sp_is_text_of c vs H Q E) : t_is_text_of c { nx := fun _ H' => Q .non H', rt := Q } (start N_is_text_of vs) H := by
  obtain ⟨_, z, sg, rfl, all, k⟩ := h
  unfold t_is_text_of
  repeat kaf_suf
  refine r_iStr ?_
  repeat kaf_suf
  refine ⟨z, rfl, ?_⟩
  intro D hD
  refine lc_str (fun j H' => H' = upd H D (.lst [])) rfl ?_ ?_
  · rintro i ch H' hc rfl
    repeat kaf_suf
    refine ⟨rfl, ?_⟩
    repeat kaf_suf
    rw [decide_eq_true (all ch (List.mem_of_getElem? hc))]
    repeat kaf_suf
    rfl
  · rintro H' rfl
    have kD := Keep.alloc (M := Nil) (o := .lst []) hD
    have eD : (upd H D (.lst [])) D = some (.lst []) := upd_same
    generalize upd H D (.lst []) = H1 at kD eD ⊢
    repeat kaf_suf
    intro p hp
    refine v_eqD (d := .list []) (e := .list []) (.lst (SqL.of (get_new hp eD)) .nil) (.lst (SqL.of upd_same) .nil) (dInts_sh []) (dInts_sh []) ?_
    exact k _ (kD.new hp)
theorem cal_is_text_of {c : Cn} {mg : Str → Option Value} {base : Heap} (T : Txt c mg) : Cal c.P c.w c.K mg base CX0 1 "is_text_of" (sp_is_text_of c) := by
  obtain ⟨f, fd, F, g, b⟩ := T.F_is_text_of
  exact ⟨f, fd, ["thing", "signs"], F.ok (k := 0) (N := N_is_text_of) sc_is_text_of (fun vs H Q E h => h.1) (fun cdv A outer s H vs Q E hr h => ⟨t_is_text_of c, by
  exact (pss_one (ps_ret (pe_and (pe_callB k_isi (by rfl) T.n_isinstance (by decide +kernel) (pa_cons (pv 0) (pa_cons (pe_bltn rfl T.n_str (by decide +kernel) rfl) pa_nil))) (pe_one (pe_cmpR (o_eq (hu64 hr)) (pe_lc (own := [("sign", 2)]) rfl sc_is_text_of.nd (pi_str (pv 0)) (blkOk_by (own := [("sign", 2)]) (N := N_is_text_of) (sc := defScope s_is_text_of) (by decide +kernel)) (fun _ _ _ _ _ => (pg_name (i := 2) sc_is_text_of.nd rfl (Or.inl rfl))) (fun _ _ _ _ _ => (pts_one (pt_cmpR o_notinS (pv 2) (pv 1) (by rfl)))) (fun _ _ _ _ _ => (pv 2))) (pe_lst pa_nil) (nomark _)))))), p_is_text_of T h⟩), g, F.kp, b⟩
abbrev N_is_strip : List Str := ["thing"]
theorem sc_is_strip : FnScope N_is_strip ["thing"] (defScope s_is_strip) := ⟨rfl, rfl, rfl, by decide +kernel, rfl, by decide +kernel, by decide +kernel⟩
def t_is_strip (c : Cn) : TS :=
  (tRet (tAndV (tCall (sp_is_text_of c) [] E0 (tCons (tVar 0) (tCons (tC (.str "LR.")) tNil))) (tOp cLe (tCB (kLen c.K) (tCons (tVar 0) tNil)) (tC (.int 8)))))
def sp_is_strip (c : Cn) : Sp := fun vs H Q E => vs.length = 1 ∧ ∃ (l : List Nat), vs = [.str (tS l)] ∧ OkS l ∧ ∀ H', Keep Nil H H' → Q (.bl true) H'
theorem p_is_strip {c : Cn} {mg : Str → Option Value} (T : Txt c mg) {vs : List V} {H : Hp} {Q : VK} {E : XK} (h : sp_is_strip c vs H Q E) : t_is_strip c { nx := fun _ H' => Q .non H', rt := Q } (start N_is_strip vs) H := by
  obtain ⟨_, l, rfl, ok, k⟩ := h
  have ll : (tS l).length = l.length := tS_len l
  have l8 := ok.1
  unfold t_is_strip
  repeat kaf_suf
  refine ⟨rfl, tS l, _, rfl, fun c hc => ?_, fun H1 k1 => ?_⟩
  · have : c = 76 ∨ c = 82 ∨ c = 46 := ok.2 c hc
    rcases this with rfl | rfl | rfl <;> decide
  · repeat kaf_suf
    rw [ll, decide_eq_true (by omega)]
    exact k H1 k1
theorem cal_is_strip {c : Cn} {mg : Str → Option Value} {base : Heap} (T : Txt c mg) : Cal c.P c.w c.K mg base CX0 2 "is_strip" (sp_is_strip c) := by
  obtain ⟨f, fd, F, g, b⟩ := T.F_is_strip
  exact ⟨f, fd, ["thing"], F.ok (k := 1) (N := N_is_strip) sc_is_strip (fun vs H Q E h => h.1) (fun cdv A outer s H vs Q E hr h => ⟨t_is_strip c, by
  exact (pss_one (ps_ret (pe_and (e_call (cal_is_text_of T) hr (by decide) pass0 rfl (pa_cons (pv 0) (pa_cons pe_str pa_nil))) (pe_one (pe_cmpR o_le (pe_callB k_len (by rfl) T.n_len (by decide +kernel) (pa_cons (pv 0) pa_nil)) (C8.pe_gc rfl (gint T.g_MOST_STRIP)) (nomark _)))))), p_is_strip T h⟩), g, F.kp, b⟩
def mk (s : Bool) : Nat := if s = true then 76 else 82
def mkS (s : Bool) : Str := if s = true then "L" else "R"
def wyS (s : Bool) : Int := if s = true then 1 else 0 - 1
theorem mkS_eq (s : Bool) : mkS s = T1 (mk s) := by cases s <;> rfl
theorem T1_inj {a b : Nat} (h : T1 a = T1 b) : a = b := by
  have := tS_inj (l := [a]) (m := [b]) h
  simpa using this
theorem T1_dec (a b : Nat) : decide (T1 a = T1 b) = decide (a = b) := by
  by_cases h : a = b
  · rw [h, decide_eq_true rfl, decide_eq_true rfl]
  · rw [decide_eq_false h, decide_eq_false fun z => h (T1_inj z)]
def tgt (s : Bool) (at_ far : Nat) : Int := (at_ : Int) + wyS s * far
structure Cnd (s : Bool) (l : List Nat) (at_ far : Nat) : Prop where
  a : l[at_]? = some (mk s)
  f : far = 1 ∨ far = 2
  lo : 0 ≤ tgt s at_ far
  hi : tgt s at_ far < l.length
  d : l[(tgt s at_ far).toNat]? = some 46
  o : far = 1 ∨ l[(tgt s at_ 1).toNat]? = some (mk (!s))
def Res (s : Bool) (l : List Nat) (at_ far : Nat) : List Nat := (l.set at_ 46).set (tgt s at_ far).toNat (mk s)
theorem split_at {l : List Nat} {i c : Nat} (h : l[i]? = some c) : l = l.take i ++ c :: l.drop (i + 1) ∧ (l.take i).length = i := by
  obtain ⟨hl, rfl⟩ := List.getElem?_eq_some_iff.mp h
  exact ⟨by rw [List.getElem_cons_drop, List.take_append_drop], by rw [List.length_take]; omega⟩
theorem drop_at {l : List Nat} {i c : Nat} (h : l[i]? = some c) : l.drop i = c :: l.drop (i + 1) := by
  obtain ⟨hl, rfl⟩ := List.getElem?_eq_some_iff.mp h
  exact (List.drop_eq_getElem_cons hl)
theorem cnd_mv {s : Bool} {l x : List Nat} : (∃ at_ far, at_ < l.length ∧ Cnd s l at_ far ∧ x = Res s l at_ far) ↔ Mv s l x := by
  constructor
  · rintro ⟨i, far, hi, ⟨a, f, lo, hi2, d, o⟩, rfl⟩
    cases s with
    | true =>
      rcases f with rfl | rfl
      · have e : (tgt true i 1).toNat = i + 1 := by unfold tgt wyS; simp <;> omega
        unfold Res
        rw [e] at d ⊢
        obtain ⟨e1, e2⟩ := split_at a
        have e3 := drop_at d
        rw [e3] at e1
        rw [show l = l.take i ++ 76 :: 46 :: l.drop (i + 1 + 1) from e1]
        generalize l.take i = p at e2 ⊢
        generalize l.drop (i + 1 + 1) = q
        subst e2
        have : ((p ++ 76 :: 46 :: q).set p.length 46).set (p.length + 1) 76 = p ++ 46 :: 76 :: q := by simp [List.set_append]
        rw [show mk true = 76 from rfl, this]
        exact .l1 p q
      · have e : (tgt true i 2).toNat = i + 2 := by unfold tgt wyS; simp <;> omega
        have e' : (tgt true i 1).toNat = i + 1 := by unfold tgt wyS; simp <;> omega
        have o := o.resolve_left (by decide)
        unfold Res
        rw [e] at d ⊢
        rw [e'] at o
        obtain ⟨e1, e2⟩ := split_at a
        have e3 := drop_at o
        have e4 := drop_at d
        rw [e3, e4] at e1
        rw [show l = l.take i ++ 76 :: 82 :: 46 :: l.drop (i + 2 + 1) from e1]
        generalize l.take i = p at e2 ⊢
        generalize l.drop (i + 2 + 1) = q
        subst e2
        have : ((p ++ 76 :: 82 :: 46 :: q).set p.length 46).set (p.length + 2) 76 = p ++ 46 :: 82 :: 76 :: q := by simp [List.set_append]
        rw [show mk true = 76 from rfl, this]
        exact .l2 p q
    | false =>
      rcases f with rfl | rfl
      · have e0 : tgt false i 1 = (i : Int) - 1 := by unfold tgt wyS; simp <;> omega
        rw [e0] at lo hi2 d
        obtain ⟨j, rfl⟩ : ∃ j, i = j + 1 := ⟨i - 1, by omega⟩
        have e : (tgt false (j + 1) 1).toNat = j := by rw [e0]; omega
        rw [show (((j + 1 : Nat) : Int) - 1).toNat = j by omega] at d
        unfold Res
        rw [e]
        obtain ⟨e1, e2⟩ := split_at d
        have e3 := drop_at a
        rw [e3] at e1
        rw [show l = l.take j ++ 46 :: 82 :: l.drop (j + 1 + 1) from e1]
        generalize l.take j = p at e2 ⊢
        generalize l.drop (j + 1 + 1) = q
        subst e2
        have : ((p ++ 46 :: 82 :: q).set (p.length + 1) 46).set p.length 82 = p ++ 82 :: 46 :: q := by simp [List.set_append]
        rw [show mk false = 82 from rfl, this]
        exact .r1 p q
      · have e0 : tgt false i 2 = (i : Int) - 2 := by unfold tgt wyS; simp <;> omega
        have e0' : tgt false i 1 = (i : Int) - 1 := by unfold tgt wyS; simp <;> omega
        have o := o.resolve_left (by decide)
        rw [e0] at lo hi2 d
        rw [e0'] at o
        obtain ⟨j, rfl⟩ : ∃ j, i = j + 2 := ⟨i - 2, by omega⟩
        have e : (tgt false (j + 2) 2).toNat = j := by rw [e0]; omega
        rw [show (((j + 2 : Nat) : Int) - 2).toNat = j by omega] at d
        rw [show (((j + 2 : Nat) : Int) - 1).toNat = j + 1 by omega] at o
        unfold Res
        rw [e]
        obtain ⟨e1, e2⟩ := split_at d
        have e3 := drop_at o
        have e4 := drop_at a
        rw [e3, e4] at e1
        rw [show l = l.take j ++ 46 :: 76 :: 82 :: l.drop (j + 2 + 1) from e1]
        generalize l.take j = p at e2 ⊢
        generalize l.drop (j + 2 + 1) = q
        subst e2
        have : ((p ++ 46 :: 76 :: 82 :: q).set (p.length + 2) 46).set p.length 82 = p ++ 82 :: 76 :: 46 :: q := by simp [List.set_append]
        rw [show mk false = 82 from rfl, this]
        exact .r2 p q
  · intro m
    cases m with
    | l1 p q =>
      have e : (tgt true p.length 1).toNat = p.length + 1 := by unfold tgt wyS; simp <;> omega
      have e0 : tgt true p.length 1 = (p.length : Int) + 1 := by unfold tgt wyS; simp
      refine ⟨p.length, 1, by simp, ⟨by simp [mk], .inl rfl, by omega, by rw [e0]; simp; omega, by rw [e]; simp, .inl rfl⟩, ?_⟩
      unfold Res
      rw [e]
      simp [List.set_append, mk]
    | l2 p q =>
      have e0 : tgt true p.length 2 = (p.length : Int) + 2 := by unfold tgt wyS; simp
      have e : (tgt true p.length 2).toNat = p.length + 2 := by rw [e0]; omega
      have e' : (tgt true p.length 1).toNat = p.length + 1 := by unfold tgt wyS; simp <;> omega
      refine ⟨p.length, 2, by simp, ⟨by simp [mk], .inr rfl, by omega, by rw [e0]; simp; omega, by rw [e]; simp, .inr (by rw [e']; simp [mk])⟩, ?_⟩
      unfold Res
      rw [e]
      simp [List.set_append, mk]
    | r1 p q =>
      have e0 : tgt false (p.length + 1) 1 = (p.length : Int) := by unfold tgt wyS; simp <;> omega
      have e : (tgt false (p.length + 1) 1).toNat = p.length := by rw [e0]; omega
      refine ⟨p.length + 1, 1, by simp, ⟨by simp [mk], .inl rfl, by omega, by rw [e0]; simp; omega, by rw [e]; simp, .inl rfl⟩, ?_⟩
      unfold Res
      rw [e]
      simp [List.set_append, mk]
    | r2 p q =>
      have e0 : tgt false (p.length + 2) 2 = (p.length : Int) := by unfold tgt wyS; simp <;> omega
      have e0' : tgt false (p.length + 2) 1 = (p.length : Int) + 1 := by unfold tgt wyS; simp <;> omega
      have e : (tgt false (p.length + 2) 2).toNat = p.length := by rw [e0]; omega
      have e' : (tgt false (p.length + 2) 1).toNat = p.length + 1 := by rw [e0']; omega
      refine ⟨p.length + 2, 2, by simp, ⟨by simp [mk], .inr rfl, by omega, by rw [e0]; simp; omega, by rw [e]; simp, .inr (by rw [e']; simp [mk])⟩, ?_⟩
      unfold Res
      rw [e]
      simp [List.set_append, mk]
theorem r_orP {ta tb : TT} {σ : L2.St} {H : Hp} {R : Bool → Hp → Prop} (P : Prop) (hT : P → R true H) (hF : ¬ P → R false H) (h : ∀ R' : Bool → Hp → Prop, (P → R' true H) → (¬ P → R' false H) → tOr ta tb σ H R') : tOr ta tb σ H R := h R hT hF
theorem atI_getG {α : Type} {xs : List α} {i : Int} {v : α} {n : Nat} (h : xs[n]? = some v) (e : i = n) : atI xs i = some v := by
  subst e
  have hn : n < xs.length := (List.getElem?_eq_some_iff.mp h).1
  unfold atI ixN
  rw [if_pos (Int.natCast_nonneg n), if_pos (by omega)]
  simpa using h
theorem join_signs (x : List Nat) : Txt.join "" ((x.map T1)) = tS x := by
  have h := SX.join_S [] (x.map fun c => [c])
  rw [List.map_map] at h
  have e : (SX.S ∘ fun c => [c]) = T1 := rfl
  rw [e] at h
  have j : ∀ x : List Nat, TL.joinL [] (x.map fun c => [c]) = x := fun x => by
    induction x with
    | nil => rfl
    | cons a r ih =>
      cases r with
      | nil => rfl
      | cons b q =>
        show [a] ++ ([] ++ TL.joinL [] ((b :: q).map fun c => [c])) = _
        rw [ih]; rfl
  rw [j] at h
  exact h
theorem join_len (x : List Nat) : (((x.map T1)).map (·.length)).sum + (x.map T1).length * ("" : Str).length = x.length := by
  have e : ("" : Str).length = 0 := rfl
  rw [e, Nat.mul_zero, Nat.add_zero, List.map_map]
  induction x with
  | nil => rfl
  | cons a r ih =>
    rw [List.map_cons, List.sum_cons, ih, List.length_cons]
    show 1 + r.length = _
    omega
abbrev N_strips_behind : List Str := ["text", "mark", "way", "other", "found", "at", "far", "to", "signs"]
theorem sc_strips_behind : FnScope N_strips_behind ["text", "mark", "way"] (defScope s_strips_behind) := ⟨rfl, rfl, rfl, by decide +kernel, rfl, by decide +kernel, by decide +kernel⟩
def t_strips_behind (c : Cn) : TS :=
  (tSeq (tAsg (tOp (bIx c.P c.w c.K) (tC (.str "LR")) (tCB kInt (tCons (tOp (cEq c.K) (tVar 1) (tC (.str "L"))) tNil))) (gName 3))
  (tSeq (tAsg (tLst tNil) (gName 4))
  (tSeq (tFor (iRng1 (tCons (tCB (kLen c.K) (tCons (tVar 0) tNil)) tNil)) (gName 5)
  (tIfS (tTest (tOp (cEq c.K) (tOp (bIx c.P c.w c.K) (tVar 0) (tVar 5)) (tVar 1)))
  (tFor (iAny c.K (tTup (tCons (tC (.int 1)) (tCons (tC (.int 2)) tNil)))) (gName 6)
  (tSeq (tAsg (tOp (bAdd c.K) (tVar 5) (tOp bMul (tVar 2) (tVar 6))) (gName 7))
  (tIfS (tAnd (tTest (tChain cLe (cLt c.K) (tC (.int 0)) (tVar 7) (tCB (kLen c.K) (tCons (tVar 0) tNil)))) (tAnd (tTest (tOp (cEq c.K) (tOp (bIx c.P c.w c.K) (tVar 0) (tVar 7)) (tC (.str ".")))) (tOr (tTest (tOp (cEq c.K) (tVar 6) (tC (.int 1)))) (tTest (tOp (cEq c.K) (tOp (bIx c.P c.w c.K) (tVar 0) (tOp (bAdd c.K) (tVar 5) (tVar 2))) (tVar 3))))))
  (tSeq (tAsg (tCB kListS (tCons (tVar 0) tNil)) (gName 8))
  (tSeq (tAsg (tC (.str ".")) (gSub (tVar 8) (tVar 5) (bSet c.P c.w)))
  (tSeq (tAsg (tVar 1) (gSub (tVar 8) (tVar 7) (bSet c.P c.w)))
  (tDrop (tBM c.K "list" rAppend (tVar 4) (tCons (tBM c.K "str" (rJoin c.K) (tC (.str "")) (tCons (tVar 8) tNil)) tNil))))))
  tNext)))
  tNext))
  (tRet (tVar 4)))))
def sp_strips_behind (c : Cn) : Sp := fun vs H Q E => vs.length = 3 ∧ ∃ (l : List Nat) (s : Bool), vs = [.str (tS l), .str (mkS s), .int (wyS s)] ∧ OkS l ∧
  ∀ (H' : Hp) (p : Addr) (xs : List (List Nat)), Keep Nil H H' → H p = none → H' p = some (.lst (xs.map fun x => V.str (tS x))) → xs.length ≤ 16 → (∀ x, x ∈ xs ↔ Mv s l x) → Q (.ref p) H'
theorem p_strips_behind {c : Cn} {mg : Str → Option Value} (T : Txt c mg) {vs : List V} {H : Hp} {Q : VK} {E : XK} (h : sp_strips_behind c vs H Q E) : t_strips_behind c { nx := fun _ H' => Q .non H', rt := Q } (start N_strips_behind vs) H := by
  obtain ⟨_, l, s, rfl, ok, k⟩ := h
  have ll : (tS l).length = l.length := tS_len l
  have l8 := ok.1
  have lf : (tS l).length ≤ 100000 := by omega
  have oth : atI (("LR" : Str).cps.toList) (if decide (mkS s = "L") = true then 1 else 0) = some (mk (!s)) := by cases s <;> rfl
  have w64 : -(2 ^ 64) < wyS s ∧ wyS s < 2 ^ 64 := by cases s <;> decide
  unfold t_strips_behind
  repeat kaf_suf
  refine v_ixS oth (by decide) ?_
  repeat kaf_suf
  intro f hf
  repeat kaf_suf
  rw [ll]
  repeat kaf_suf
  refine for_range (lo := 0) (n := (l.length : Int).toNat) (fun i σ H' => ∃ (x5 x6 x7 x8 : Option V) (xs : List (List Nat)), σ = [some (.str (tS l)), some (.str (mkS s)), some (.int (wyS s)), some (.str (T1 (mk (!s)))), some (.ref f), x5, x6, x7, x8] ∧ Keep Nil H H' ∧ H' f = some (.lst (xs.map fun x => V.str (tS x))) ∧ xs.length ≤ 2 * i ∧ ∀ x, x ∈ xs ↔ ∃ a far, a < i ∧ Cnd s l a far ∧ x = Res s l a far) ⟨_, _, _, _, [], rfl, Keep.alloc hf, upd_same, Nat.le_refl _, fun x => by simp⟩ ?_ ?_
  · rintro i σ H1 hi ⟨x5, x6, x7, x8, xs, rfl, k1, e1, xl, hx⟩
    have hi' : i < l.length := by omega
    obtain ⟨ch, hch⟩ : ∃ ch, l[i]? = some ch := ⟨_, List.getElem?_eq_getElem hi'⟩
    have hc1 : atI (tS l).cps.toList (0 + (i : Int)) = some ch := atI_getG (xs := l) (n := i) hch (by omega)
    repeat kaf_suf
    rw [show decide (T1 ch = mkS s) = decide (ch = mk s) by rw [mkS_eq, T1_dec]]
    refine r_ite (fun p => ?_) (fun p => ?_)
    · subst p
      repeat kaf_suf
      intro t ht
      have kt := Keep.alloc (M := Nil) (o := .tup [.int 1, .int 2]) ht
      have et : (upd H1 t (.tup [.int 1, .int 2])) t = some (.tup [.int 1, .int 2]) := upd_same
      have e2 := kt.get (fun z => z) e1
      have k2 := k1.trans kt
      generalize upd H1 t (.tup [.int 1, .int 2]) = H2 at et e2 k2 ⊢
      clear kt ht e1 k1
      repeat kaf_suf
      refine for_tup (xs := [(1 : Int), 2].map V.int) (fun j σ H' => ∃ (x6 x7 x8 : Option V) (xs : List (List Nat)), σ = [some (.str (tS l)), some (.str (mkS s)), some (.int (wyS s)), some (.str (T1 (mk (!s)))), some (.ref f), some (.int (0 + (i : Int))), x6, x7, x8] ∧ Keep Nil H H' ∧ H' t = some (.tup [.int 1, .int 2]) ∧ H' f = some (.lst (xs.map fun x => V.str (tS x))) ∧ xs.length ≤ 2 * i + j ∧ ∀ x, x ∈ xs ↔ ∃ a far, (a < i ∨ (a = i ∧ far ≤ j)) ∧ Cnd s l a far ∧ x = Res s l a far) ⟨_, _, _, xs, rfl, k2, et, e2, xl, fun x => ?_⟩ ?_ ?_ ?_
      · rw [hx]
        constructor
        · rintro ⟨a, far, h1, h2, h3⟩
          exact ⟨a, far, .inl h1, h2, h3⟩
        · rintro ⟨a, far, h1 | ⟨rfl, h1⟩, h2, h3⟩
          · exact ⟨a, far, h1, h2, h3⟩
          · rcases h2.f with rfl | rfl <;> omega
      · rintro j σ H' _ ⟨_, _, _, _, _, _, e, _⟩
        exact SqT.of e
      · rintro j x σ H3 hj ⟨x6, x7, x8, ys, rfl, k3, et3, e3, yl, hy⟩
        have hj2 : j < 2 := (List.getElem?_eq_some_iff.mp hj).1
        obtain ⟨far, rfl, efar⟩ : ∃ far : Nat, x = .int far ∧ far = j + 1 := by
          have : j = 0 ∨ j = 1 := by omega
          rcases this with rfl | rfl <;> cases hj
          · exact ⟨1, rfl, rfl⟩
          · exact ⟨2, rfl, rfl⟩
        have f12 : far = 1 ∨ far = 2 := by omega
        -- what stays when nothing is put
        have stay : ¬ Cnd s l i far → ∀ x, x ∈ ys ↔ ∃ a g, (a < i ∨ (a = i ∧ g ≤ j + 1)) ∧ Cnd s l a g ∧ x = Res s l a g := fun n x => by
          rw [hy]
          constructor
          · rintro ⟨a, g, h1 | ⟨rfl, h1⟩, h2, h3⟩
            · exact ⟨a, g, .inl h1, h2, h3⟩
            · exact ⟨a, g, .inr ⟨rfl, by omega⟩, h2, h3⟩
          · rintro ⟨a, g, h1 | ⟨rfl, h1⟩, h2, h3⟩
            · exact ⟨a, g, .inl h1, h2, h3⟩
            · by_cases e : g = far
              · subst e; exact absurd h2 n
              · exact ⟨a, g, .inr ⟨rfl, by omega⟩, h2, h3⟩
        have etg : (0 : Int) + (i : Int) + wyS s * (far : Int) = tgt s i far := by unfold tgt; omega
        have etg1 : (0 : Int) + (i : Int) + wyS s = tgt s i 1 := by unfold tgt; omega
        repeat kaf_suf
        rw [etg]
        refine r_ite (fun lo => ?_) (fun lo => ?_)
        · repeat kaf_suf
          rw [ll]
          repeat kaf_suf
          refine r_ite (fun hi => ?_) (fun hi => ?_)
          · obtain ⟨cd, hcd⟩ : ∃ c, l[(tgt s i far).toNat]? = some c := ⟨_, List.getElem?_eq_getElem (by omega)⟩
            have hc2 : atI (tS l).cps.toList (tgt s i far) = some cd := atI_getG (xs := l) hcd (by omega)
            repeat kaf_suf
            rw [show decide (T1 cd = ".") = decide (cd = 46) from T1_dec cd 46]
            refine r_ite (fun d => ?_) (fun d => ?_)
            · subst d
              refine r_orP (far = 1 ∨ l[(tgt s i 1).toNat]? = some (mk (!s))) (fun P => ?_) (fun P => ?_) (fun R' hT hF => ?_)
              · have C : Cnd s l i far := ⟨hch, f12, lo, hi, hcd, P⟩
                repeat kaf_suf
                intro q hq
                have kq := Keep.alloc (M := Nil) (o := .lst ((tS l).cps.toList.map fun c => V.str (T1 c))) hq
                have eq0 : (upd H3 q (.lst ((tS l).cps.toList.map fun c => V.str (T1 c)))) q = some (.lst (l.map fun c => V.str (T1 c))) := upd_same
                have nq : q ≠ t := ne_new hq et3
                have nqf : q ≠ f := ne_new hq e3
                have q0 : H q = none := keep_none k3 hq
                have et4 := kq.get (fun z => z) et3
                have e4 := kq.get (fun z => z) e3
                have k4 := k3.trans kq
                generalize upd H3 q (.lst ((tS l).cps.toList.map fun c => V.str (T1 c))) = H4 at eq0 et4 e4 k4 ⊢
                have ix1 : ixN (l.map fun c => V.str (T1 c)).length (0 + (i : Int)) = some i := by
                  unfold ixN
                  rw [if_pos (by omega), if_pos (by rw [List.length_map]; omega)]
                  congr 1
                  omega
                have m1 : (l.map fun c => V.str (T1 c)).set i (.str ".") = (l.set i 46).map fun c => V.str (T1 c) := by rw [List.map_set]; rfl
                repeat kaf_suf
                rw [m1]
                have ix2 : ixN ((l.set i 46).map fun c => V.str (T1 c)).length (tgt s i far) = some (tgt s i far).toNat := by
                  unfold ixN
                  rw [if_pos lo, if_pos (by rw [List.length_map, List.length_set]; omega)]
                have m2 : ((l.set i 46).map fun c => V.str (T1 c)).set (tgt s i far).toNat (.str (mkS s)) = (Res s l i far).map fun c => V.str (T1 c) := by
                  unfold Res
                  rw [List.map_set (l := l.set i 46), mkS_eq]
                repeat kaf_suf
                rw [m2]
                have eq2 : (upd (upd H4 q (.lst ((l.set i 46).map fun c => V.str (T1 c)))) q (.lst ((Res s l i far).map fun c => V.str (T1 c)))) q = some (.lst (((Res s l i far).map T1).map V.str)) := by rw [List.map_map]; exact upd_same
                have k5 : Keep Nil H (upd (upd H4 q (.lst ((l.set i 46).map fun c => V.str (T1 c)))) q (.lst ((Res s l i far).map fun c => V.str (T1 c)))) := (k4.setN q0).setN q0
                have et5 := get_set (u := .lst ((Res s l i far).map fun c => V.str (T1 c))) nq.symm (get_set (u := .lst ((l.set i 46).map fun c => V.str (T1 c))) nq.symm et4)
                have e5 := get_set (u := .lst ((Res s l i far).map fun c => V.str (T1 c))) nqf.symm (get_set (u := .lst ((l.set i 46).map fun c => V.str (T1 c))) nqf.symm e4)
                generalize upd (upd H4 q (.lst ((l.set i 46).map fun c => V.str (T1 c)))) q (.lst ((Res s l i far).map fun c => V.str (T1 c))) = H5 at eq2 k5 et5 e5 ⊢
                repeat kaf_suf
                refine v_joinL eq2 ?_ ?_
                · rw [join_len]
                  unfold Res
                  rw [List.length_set, List.length_set]
                  omega
                rw [join_signs]
                have ft : f ≠ t := fun z => by rw [z, et5] at e5; cases e5
                repeat kaf_suf
                refine ⟨_, _, _, ys ++ [Res s l i far], rfl, k5.setN hf, get_set ft.symm et5, by rw [List.map_append]; exact upd_same, by rw [List.length_append]; show ys.length + 1 ≤ _; omega, fun x => ?_⟩
                rw [List.mem_append, hy, List.mem_singleton]
                constructor
                · rintro (⟨a, g, h1 | ⟨rfl, h1⟩, h2, h3⟩ | rfl)
                  · exact ⟨a, g, .inl h1, h2, h3⟩
                  · exact ⟨a, g, .inr ⟨rfl, by omega⟩, h2, h3⟩
                  · exact ⟨i, far, .inr ⟨rfl, by omega⟩, C, rfl⟩
                · rintro ⟨a, g, h1 | ⟨rfl, h1⟩, h2, h3⟩
                  · exact .inl ⟨a, g, .inl h1, h2, h3⟩
                  · by_cases e : g = far
                    · subst e; exact .inr h3
                    · exact .inl ⟨a, g, .inr ⟨rfl, by omega⟩, h2, h3⟩
              · repeat kaf_suf
                exact ⟨_, _, _, ys, rfl, k3, et3, e3, by omega, stay fun C => P C.o⟩
              · repeat kaf_suf
                refine r_ite (fun p => ?_) (fun p => ?_)
                · exact hT (.inl (by omega))
                · have f2 : far = 2 := by omega
                  subst f2
                  repeat kaf_suf
                  rw [etg1]
                  have t1 : 0 ≤ tgt s i 1 ∧ tgt s i 1 < l.length := by
                    unfold tgt at lo hi ⊢
                    cases s <;> simp only [wyS] at lo hi ⊢ <;> simp at lo hi ⊢ <;> omega
                  obtain ⟨co, hco⟩ : ∃ c, l[(tgt s i 1).toNat]? = some c := ⟨_, List.getElem?_eq_getElem (by omega)⟩
                  have hc3 : atI (tS l).cps.toList (tgt s i 1) = some co := atI_getG (xs := l) hco (by omega)
                  repeat kaf_suf
                  rw [T1_dec]
                  by_cases e : co = mk (!s)
                  · rw [decide_eq_true e]
                    exact hT (.inr (by rw [hco, e]))
                  · rw [decide_eq_false e]
                    exact hF fun z => z.elim (fun z => by omega) fun z => by rw [hco] at z; cases z; exact e rfl
            · repeat kaf_suf
              exact ⟨_, _, _, ys, rfl, k3, et3, e3, by omega, stay fun C => d (by have := C.d; rw [hcd] at this; cases this; rfl)⟩
          · repeat kaf_suf
            exact ⟨_, _, _, ys, rfl, k3, et3, e3, by omega, stay fun C => hi C.hi⟩
        · repeat kaf_suf
          exact ⟨_, _, _, ys, rfl, k3, et3, e3, by omega, stay fun C => lo C.lo⟩
      · rintro σ H3 ⟨x6, x7, x8, ys, rfl, k3, et3, e3, yl, hy⟩
        repeat kaf_suf
        have yl' : ys.length ≤ 2 * i + 2 := yl
        refine ⟨_, _, _, _, ys, rfl, k3, e3, by omega, fun x => ?_⟩
        rw [hy]
        constructor
        · rintro ⟨a, g, h1 | ⟨rfl, h1⟩, h2, h3⟩
          · exact ⟨a, g, by omega, h2, h3⟩
          · exact ⟨a, g, by omega, h2, h3⟩
        · rintro ⟨a, g, h1, h2, h3⟩
          by_cases e : a = i
          · exact ⟨a, g, .inr ⟨e, by rcases h2.f with rfl | rfl <;> simp⟩, h2, h3⟩
          · exact ⟨a, g, .inl (by omega), h2, h3⟩
    · repeat kaf_suf
      refine ⟨_, _, _, _, xs, rfl, k1, e1, by omega, fun x => ?_⟩
      rw [hx]
      constructor
      · rintro ⟨a, g, h1, h2, h3⟩
        exact ⟨a, g, by omega, h2, h3⟩
      · rintro ⟨a, g, h1, h2, h3⟩
        by_cases e : a = i
        · subst e
          have := h2.a
          rw [hch] at this
          cases this
          exact absurd rfl p
        · exact ⟨a, g, by omega, h2, h3⟩
  · rintro σ H1 ⟨x5, x6, x7, x8, xs, rfl, k1, e1, xl, hx⟩
    repeat kaf_suf
    refine k H1 f xs k1 hf e1 (by omega) fun x => ?_
    rw [hx, ← cnd_mv]
    constructor
    · rintro ⟨a, g, h1, h2, h3⟩
      exact ⟨a, g, by omega, h2, h3⟩
    · rintro ⟨a, g, h1, h2, h3⟩
      exact ⟨a, g, by omega, h2, h3⟩
theorem cal_strips_behind {c : Cn} {mg : Str → Option Value} {base : Heap} (T : Txt c mg) : Cal c.P c.w c.K mg base CX0 1 "strips_behind" (sp_strips_behind c) := by
  obtain ⟨f, fd, F, g, b⟩ := T.F_strips_behind
  exact ⟨f, fd, ["text", "mark", "way"], F.ok (k := 0) (N := N_strips_behind) sc_strips_behind (fun vs H Q E h => h.1) (fun cdv A outer s H vs Q E hr h => ⟨t_strips_behind c, by
  exact (pss_cons (ps_set (i := 3) sc_strips_behind.nd rfl (Or.inl rfl) (pe_ix (x_ix (hu64 hr)) pe_str (pe_callTy k_int (by rfl) T.n_int (by decide +kernel) (pa_cons (pe_cmpR (o_eq (hu64 hr)) (pv 1) pe_str (nomark _)) pa_nil)) (fun _ _ => rfl)))
  (pss_cons (ps_set (i := 4) sc_strips_behind.nd rfl (Or.inl rfl) (pe_lst pa_nil))
  (pss_cons (ps_for PassesOwn.never rfl (pi_range1 rfl T.n_range (pa_cons (pe_callB k_len (by rfl) T.n_len (by decide +kernel) (pa_cons (pv 0) pa_nil)) pa_nil)) (pg_name (i := 5) sc_strips_behind.nd rfl (Or.inl rfl))
  (pss_one (ps_if (pt_cmpR (o_eq (hu64 hr)) (pe_ix (x_ix (hu64 hr)) (pv 0) (pv 5) (fun _ _ => rfl)) (pv 1) (nomark _)) (pss_one (ps_for PassesOwn.never rfl (pi_any (pe_tup (pa_cons pe_int (pa_cons pe_int pa_nil)))) (pg_name (i := 6) sc_strips_behind.nd rfl (Or.inl rfl))
  (pss_cons (ps_set (i := 7) sc_strips_behind.nd rfl (Or.inl rfl) (pe_op o_add (pv 5) (pe_op o_mul (pv 2) (pv 6))))
  (pss_one (ps_if (PW.pt (pw_and (pt_chain o_le (o_lt (hu64 hr)) pe_int (pv 7) (pe_callB k_len (by rfl) T.n_len (by decide +kernel) (pa_cons (pv 0) pa_nil))) (pw_and (pt_cmpR (o_eq (hu64 hr)) (pe_ix (x_ix (hu64 hr)) (pv 0) (pv 7) (fun _ _ => rfl)) pe_str (nomark _)) (pw_and1 (PW.pt (pw_or (pt_cmpR (o_eq (hu64 hr)) (pv 6) pe_int (nomark _)) (pw_or1 (pt_cmpR (o_eq (hu64 hr)) (pe_ix (x_ix (hu64 hr)) (pv 0) (pe_op o_add (pv 5) (pv 2)) (fun _ _ => rfl)) (pv 3) (nomark _))))))))) (pss_cons (ps_set (i := 8) sc_strips_behind.nd rfl (Or.inl rfl) (pe_callTy (k_listS rfl) (by rfl) T.n_list (by decide +kernel) (pa_cons (pv 0) pa_nil)))
  (pss_cons (ps_asg pe_str (pg_sub (pv 8) (pv 5) (s_set (hu64 hr))))
  (pss_cons (ps_asg (pv 1) (pg_sub (pv 8) (pv 7) (s_set (hu64 hr))))
  (pss_one (ps_expr (pe_bm PySem.F.plainAttrs_list PySem.F.slot_list_append PySem.F.type_list_append mt_append (pv 4) (pa_cons (pe_bm PySem.F.plainAttrs_str PySem.F.slot_str_join PySem.F.type_str_join mt_join pe_str (pa_cons (pv 8) pa_nil)) pa_nil))))))) pss_nil))))) pss_nil)))
  (pss_one (ps_ret (pv 4)))))), p_strips_behind T h⟩), g, F.kp, b⟩

/-! the law's own moves -/
theorem tS_app (a b : List Nat) : tS a ++ tS b = tS (a ++ b) := by
  show (⟨a.toArray ++ b.toArray⟩ : Str) = ⟨(a ++ b).toArray⟩
  rw [List.append_toArray]
theorem cut_mid {l : List Nat} {i k : Nat} (h : i < l.length) : cutS (tS l) (some (i : Int)) (some ((i + k : Nat) : Int)) = tS ((l.drop i).take k) := by
  unfold cutS
  rw [HT.sIx_nat, HT.sIx_nat, tS_len]
  show tS ((l.drop (min i l.length)).take (min (i + k) l.length - min i l.length)) = _
  rw [show min i l.length = i from Nat.min_eq_left (by omega)]
  congr 1
  by_cases c : i + k ≤ l.length
  · rw [Nat.min_eq_left c, Nat.add_sub_cancel_left]
  · rw [Nat.min_eq_right (by omega), List.take_of_length_le (by rw [List.length_drop]; omega), List.take_of_length_le (by rw [List.length_drop]; omega)]
theorem cut_pre {l : List Nat} {i : Nat} : cutS (tS l) none (some (i : Int)) = tS (l.take i) := by
  unfold cutS
  rw [HT.sIx_nat, HT.sIx_none, tS_len]
  show tS ((l.drop 0).take (min i l.length - 0)) = _
  rw [List.drop_zero, Nat.sub_zero]
  congr 1
  by_cases c : i ≤ l.length
  · rw [Nat.min_eq_left c]
  · rw [Nat.min_eq_right (by omega), List.take_of_length_le (Nat.le_refl _), List.take_of_length_le (by omega)]
theorem cut_post {l : List Nat} {i : Nat} : cutS (tS l) (some (i : Int)) none = tS (l.drop i) := by
  unfold cutS
  rw [HT.sIx_nat, HT.sIx_none, tS_len]
  show tS ((l.drop (min i l.length)).take (l.length - min i l.length)) = _
  congr 1
  by_cases c : i ≤ l.length
  · rw [Nat.min_eq_left c, List.take_of_length_le (by rw [List.length_drop]; omega)]
  · rw [Nat.min_eq_right (by omega), Nat.sub_self, List.take_zero, List.drop_of_length_le (by omega)]
def lA1 (s : Bool) : List Nat := if s = true then [76, 46] else [46, 82]
def lB1 (s : Bool) : List Nat := if s = true then [46, 76] else [82, 46]
def lA2 (s : Bool) : List Nat := if s = true then [76, 82, 46] else [46, 76, 82]
def lB2 (s : Bool) : List Nat := if s = true then [46, 82, 76] else [82, 76, 46]
def LwS (s : Bool) (l : List Nat) (a : Nat) (x : List Nat) : Prop := ((l.drop a).take 2 = lA1 s ∧ x = l.take a ++ lB1 s ++ l.drop (a + 2)) ∨ ((l.drop a).take 3 = lA2 s ∧ x = l.take a ++ lB2 s ++ l.drop (a + 3))
theorem take_split {l m : List Nat} {a k : Nat} (h : (l.drop a).take k = m) : l = l.take a ++ m ++ l.drop (a + k) := by
  rw [← h, List.append_assoc, ← List.drop_drop, List.take_append_drop, List.take_append_drop]
theorem take_mid (p m q : List Nat) : ((p ++ m ++ q).drop p.length).take m.length = m ∧ (p ++ m ++ q).take p.length = p ∧ (p ++ m ++ q).drop (p.length + m.length) = q := by
  rw [List.append_assoc]
  refine ⟨by simp, by simp, ?_⟩
  rw [← List.drop_drop]
  simp
theorem lwS_mv {s : Bool} {l x : List Nat} : (∃ a, a < l.length ∧ LwS s l a x) ↔ Mv s l x := by
  constructor
  · rintro ⟨a, _, ⟨h, rfl⟩ | ⟨h, rfl⟩⟩
    · have e := take_split h
      generalize l.take a = p at e ⊢
      generalize l.drop (a + 2) = q at e ⊢
      subst e
      cases s
      · have := Mv.r1 p q
        simpa [lA1, lB1] using this
      · have := Mv.l1 p q
        simpa [lA1, lB1] using this
    · have e := take_split h
      generalize l.take a = p at e ⊢
      generalize l.drop (a + 3) = q at e ⊢
      subst e
      cases s
      · have := Mv.r2 p q
        simpa [lA2, lB2] using this
      · have := Mv.l2 p q
        simpa [lA2, lB2] using this
  · intro m
    cases m with
    | l1 p q =>
      obtain ⟨h1, h2, h3⟩ := take_mid p [76, 46] q
      have e : p ++ 76 :: 46 :: q = p ++ [76, 46] ++ q := by simp
      exact ⟨p.length, by simp, .inl ⟨by rw [e]; exact h1, by rw [e, h2, show p.length + 2 = p.length + [76, 46].length from rfl, h3]; simp [lB1]⟩⟩
    | l2 p q =>
      obtain ⟨h1, h2, h3⟩ := take_mid p [76, 82, 46] q
      have e : p ++ 76 :: 82 :: 46 :: q = p ++ [76, 82, 46] ++ q := by simp
      exact ⟨p.length, by simp, .inr ⟨by rw [e]; exact h1, by rw [e, h2, show p.length + 3 = p.length + [76, 82, 46].length from rfl, h3]; simp [lB2]⟩⟩
    | r1 p q =>
      obtain ⟨h1, h2, h3⟩ := take_mid p [46, 82] q
      have e : p ++ 46 :: 82 :: q = p ++ [46, 82] ++ q := by simp
      exact ⟨p.length, by simp, .inl ⟨by rw [e]; exact h1, by rw [e, h2, show p.length + 2 = p.length + [46, 82].length from rfl, h3]; simp [lB1]⟩⟩
    | r2 p q =>
      obtain ⟨h1, h2, h3⟩ := take_mid p [46, 76, 82] q
      have e : p ++ 46 :: 76 :: 82 :: q = p ++ [46, 76, 82] ++ q := by simp
      exact ⟨p.length, by simp, .inr ⟨by rw [e]; exact h1, by rw [e, h2, show p.length + 3 = p.length + [46, 76, 82].length from rfl, h3]; simp [lB2]⟩⟩
abbrev N_law_lefts : List Str := ["strip", "found", "at"]
theorem sc_law_lefts : FnScope N_law_lefts ["strip"] (defScope s_law_lefts) := ⟨rfl, rfl, rfl, by decide +kernel, rfl, by decide +kernel, by decide +kernel⟩
def t_law_lefts (c : Cn) : TS :=
  (tSeq (tAsg (tLst tNil) (gName 1))
  (tSeq (tFor (iRng1 (tCons (tCB (kLen c.K) (tCons (tVar 0) tNil)) tNil)) (gName 2)
  (C8.tCut (tIfS (tTest (tOp (cEq c.K) (tSl rSlS (tVar 0) (tPart (tVar 2)) (tPart (tOp (bAdd c.K) (tVar 2) (tC (.int 2))))) (tC (.str "L."))))
  (tDrop (tBM c.K "list" rAppend (tVar 1) (tCons (tOp (bAdd c.K) (tOp (bAdd c.K) (tSl rSlS (tVar 0) tNoPart (tPart (tVar 2))) (tC (.str ".L"))) (tSl rSlS (tVar 0) (tPart (tOp (bAdd c.K) (tVar 2) (tC (.int 2)))) tNoPart)) tNil)))
  tNext)
  (tIfS (tTest (tOp (cEq c.K) (tSl rSlS (tVar 0) (tPart (tVar 2)) (tPart (tOp (bAdd c.K) (tVar 2) (tC (.int 3))))) (tC (.str "LR."))))
  (tDrop (tBM c.K "list" rAppend (tVar 1) (tCons (tOp (bAdd c.K) (tOp (bAdd c.K) (tSl rSlS (tVar 0) tNoPart (tPart (tVar 2))) (tC (.str ".RL"))) (tSl rSlS (tVar 0) (tPart (tOp (bAdd c.K) (tVar 2) (tC (.int 3)))) tNoPart)) tNil)))
  tNext)))
  (tRet (tVar 1))))
def sp_law_lefts (c : Cn) : Sp := fun vs H Q E => vs.length = 1 ∧ ∃ (l : List Nat), vs = [.str (tS l)] ∧ l.length ≤ 8 ∧
  ∀ (H' : Hp) (p : Addr) (xs : List (List Nat)), Keep Nil H H' → H p = none → H' p = some (.lst (xs.map fun x => V.str (tS x))) → xs.length ≤ 16 → (∀ x, x ∈ xs ↔ Mv true l x) → Q (.ref p) H'
theorem p_law_lefts {c : Cn} {mg : Str → Option Value} (T : Txt c mg) {vs : List V} {H : Hp} {Q : VK} {E : XK} (h : sp_law_lefts c vs H Q E) : t_law_lefts c { nx := fun _ H' => Q .non H', rt := Q } (start N_law_lefts vs) H := by
  obtain ⟨_, l, rfl, l8, k⟩ := h
  have ll : (tS l).length = l.length := tS_len l
  have lf : (tS l).length ≤ 100000 := by omega
  unfold t_law_lefts
  repeat kaf_suf
  intro f hf
  repeat kaf_suf
  rw [ll]
  repeat kaf_suf
  refine for_range (lo := 0) (n := (l.length : Int).toNat) (fun i σ H' => ∃ (x2 : Option V) (xs : List (List Nat)), σ = [some (.str (tS l)), some (.ref f), x2] ∧ Keep Nil H H' ∧ H' f = some (.lst (xs.map fun x => V.str (tS x))) ∧ xs.length ≤ 2 * i ∧ ∀ x, x ∈ xs ↔ ∃ a, a < i ∧ LwS true l a x) ⟨_, [], rfl, Keep.alloc hf, upd_same, Nat.le_refl _, fun x => by simp⟩ ?_ ?_
  · rintro i σ H1 hi ⟨x2, xs, rfl, k1, e1, xl, hx⟩
    have hi' : i < l.length := by omega
    have i2 : (i : Int) + 2 = ((i + 2 : Nat) : Int) := by omega
    have i3 : (i : Int) + 3 = ((i + 3 : Nat) : Int) := by omega
    have i0 : (0 : Int) + (i : Int) = (i : Int) := by omega
    have q1 : ∀ (m : List Nat), decide (tS m = "L.") = decide (m = lA1 true) := fun m => by
      by_cases h : m = lA1 true
      · rw [decide_eq_true h, h]; rfl
      · rw [decide_eq_false h]; exact decide_eq_false fun z => h (tS_inj z)
    have q2 : ∀ (m : List Nat), decide (tS m = "LR.") = decide (m = lA2 true) := fun m => by
      by_cases h : m = lA2 true
      · rw [decide_eq_true h, h]; rfl
      · rw [decide_eq_false h]; exact decide_eq_false fun z => h (tS_inj z)
    have n2 : (tS (l.take i)).length + (".L" : Str).length ≤ sizeLine := by rw [tS_len, List.length_take, sizeLine_eq, show (".L" : Str).length = 2 from rfl]; omega
    have n3 : (tS (l.take i)).length + (".RL" : Str).length ≤ sizeLine := by rw [tS_len, List.length_take, sizeLine_eq, show (".RL" : Str).length = 3 from rfl]; omega
    have a2 : tS (l.take i) ++ (".L" : Str) = tS (l.take i ++ lB1 true) := tS_app _ _
    have a3 : tS (l.take i) ++ (".RL" : Str) = tS (l.take i ++ lB2 true) := tS_app _ _
    have m2 : (tS (l.take i ++ lB1 true)).length + (tS (l.drop (i + 2))).length ≤ sizeLine := by rw [tS_len, tS_len, List.length_append, List.length_take, List.length_drop, sizeLine_eq, show (lB1 true).length = 2 from rfl]; omega
    have m3 : (tS (l.take i ++ lB2 true)).length + (tS (l.drop (i + 3))).length ≤ sizeLine := by rw [tS_len, tS_len, List.length_append, List.length_take, List.length_drop, sizeLine_eq, show (lB2 true).length = 3 from rfl]; omega
    rw [i0]
    repeat kaf_suf
    refine ⟨fun σ H' => ∃ (xs : List (List Nat)), σ = [some (.str (tS l)), some (.ref f), some (.int (i : Int))] ∧ Keep Nil H H' ∧ H' f = some (.lst (xs.map fun x => V.str (tS x))) ∧ xs.length ≤ 2 * i + 1 ∧ ∀ x, x ∈ xs ↔ (∃ a, a < i ∧ LwS true l a x) ∨ ((l.drop i).take 2 = lA1 true ∧ x = l.take i ++ lB1 true ++ l.drop (i + 2)), ?_, ?_⟩
    · repeat kaf_suf
      refine v_slS lf ?_
      rw [i2, cut_mid hi']
      repeat kaf_suf
      rw [q1]
      refine r_ite (fun p => ?_) (fun p => ?_)
      · repeat kaf_suf
        refine v_slS lf ?_
        rw [cut_pre]
        repeat kaf_suf
        rw [a2]
        refine v_slS lf ?_
        rw [i2, cut_post]
        refine v_addS m2 ?_
        rw [tS_app]
        repeat kaf_suf
        refine ⟨xs ++ [l.take i ++ lB1 true ++ l.drop (i + 2)], rfl, k1.setN hf, by rw [List.map_append]; exact upd_same, by rw [List.length_append]; show xs.length + 1 ≤ _; omega, fun x => ?_⟩
        rw [List.mem_append, hx, List.mem_singleton]
        constructor
        · rintro (h | rfl)
          · exact .inl h
          · exact .inr ⟨p, rfl⟩
        · rintro (h | ⟨_, h⟩)
          · exact .inl h
          · exact .inr h
      · repeat kaf_suf
        refine ⟨xs, rfl, k1, e1, by omega, fun x => ?_⟩
        rw [hx]
        exact ⟨.inl, fun h => h.elim id fun h => absurd h.1 p⟩
    · rintro σ H2 ⟨ys, rfl, k2, e2, yl, hy⟩
      have last : ∀ x, ((∃ a, a < i ∧ LwS true l a x) ∨ LwS true l i x) ↔ ∃ a, a < i + 1 ∧ LwS true l a x := fun x => by
        constructor
        · rintro (⟨a, h1, h2⟩ | h)
          · exact ⟨a, by omega, h2⟩
          · exact ⟨i, by omega, h⟩
        · rintro ⟨a, h1, h2⟩
          by_cases e : a = i
          · exact .inr (e ▸ h2)
          · exact .inl ⟨a, by omega, h2⟩
      repeat kaf_suf
      refine v_slS lf ?_
      rw [i3, cut_mid hi']
      repeat kaf_suf
      rw [q2]
      refine r_ite (fun p => ?_) (fun p => ?_)
      · repeat kaf_suf
        refine v_slS lf ?_
        rw [cut_pre]
        repeat kaf_suf
        rw [a3]
        refine v_slS lf ?_
        rw [i3, cut_post]
        refine v_addS m3 ?_
        rw [tS_app]
        repeat kaf_suf
        refine ⟨_, ys ++ [l.take i ++ lB2 true ++ l.drop (i + 3)], rfl, k2.setN hf, by rw [List.map_append]; exact upd_same, by rw [List.length_append]; show ys.length + 1 ≤ _; omega, fun x => ?_⟩
        rw [← last, List.mem_append, hy, List.mem_singleton]
        constructor
        · rintro ((h | h) | rfl)
          · exact .inl h
          · exact .inr (.inl h)
          · exact .inr (.inr ⟨p, rfl⟩)
        · rintro (h | h | ⟨_, h⟩)
          · exact .inl (.inl h)
          · exact .inl (.inr h)
          · exact .inr h
      · repeat kaf_suf
        refine ⟨_, ys, rfl, k2, e2, by omega, fun x => ?_⟩
        rw [← last, hy]
        constructor
        · rintro (h | h)
          · exact .inl h
          · exact .inr (.inl h)
        · rintro (h | h | ⟨h, _⟩)
          · exact .inl h
          · exact .inr h
          · exact absurd h p
  · rintro σ H1 ⟨x2, xs, rfl, k1, e1, xl, hx⟩
    repeat kaf_suf
    refine k H1 f xs k1 hf e1 (by omega) fun x => ?_
    rw [hx, ← lwS_mv]
    constructor
    · rintro ⟨a, h1, h2⟩
      exact ⟨a, by omega, h2⟩
    · rintro ⟨a, h1, h2⟩
      exact ⟨a, by omega, h2⟩
theorem cal_law_lefts {c : Cn} {mg : Str → Option Value} {base : Heap} (T : Txt c mg) : Cal c.P c.w c.K mg base CX0 1 "_law_lefts" (sp_law_lefts c) := by
  obtain ⟨f, fd, F, g, b⟩ := T.F_law_lefts
  exact ⟨f, fd, ["strip"], F.ok (k := 0) (N := N_law_lefts) sc_law_lefts (fun vs H Q E h => h.1) (fun cdv A outer s H vs Q E hr h => ⟨t_law_lefts c, by
  exact (pss_cons (ps_set (i := 1) sc_law_lefts.nd rfl (Or.inl rfl) (pe_lst pa_nil))
  (pss_cons (ps_for PassesOwn.never rfl (pi_range1 rfl T.n_range (pa_cons (pe_callB k_len (by rfl) T.n_len (by decide +kernel) (pa_cons (pv 0) pa_nil)) pa_nil)) (pg_name (i := 2) sc_law_lefts.nd rfl (Or.inl rfl))
  (C8.pss_cut (ps_if (pt_cmpR (o_eq (hu64 hr)) (pe_slice sl_str (pv 0) (po_some (pv 2)) (po_some (pe_op o_add (pv 2) pe_int))) pe_str (nomark _)) (pss_one (ps_expr (pe_bm PySem.F.plainAttrs_list PySem.F.slot_list_append PySem.F.type_list_append mt_append (pv 1) (pa_cons (pe_op o_add (pe_op o_add (pe_slice sl_str (pv 0) po_none (po_some (pv 2))) pe_str) (pe_slice sl_str (pv 0) (po_some (pe_op o_add (pv 2) pe_int)) po_none)) pa_nil)))) pss_nil)
  (pss_one (ps_if (pt_cmpR (o_eq (hu64 hr)) (pe_slice sl_str (pv 0) (po_some (pv 2)) (po_some (pe_op o_add (pv 2) pe_int))) pe_str (nomark _)) (pss_one (ps_expr (pe_bm PySem.F.plainAttrs_list PySem.F.slot_list_append PySem.F.type_list_append mt_append (pv 1) (pa_cons (pe_op o_add (pe_op o_add (pe_slice sl_str (pv 0) po_none (po_some (pv 2))) pe_str) (pe_slice sl_str (pv 0) (po_some (pe_op o_add (pv 2) pe_int)) po_none)) pa_nil)))) pss_nil))))
  (pss_one (ps_ret (pv 1))))), p_law_lefts T h⟩), g, F.kp, b⟩
abbrev N_law_rights : List Str := ["strip", "found", "at"]
theorem sc_law_rights : FnScope N_law_rights ["strip"] (defScope s_law_rights) := ⟨rfl, rfl, rfl, by decide +kernel, rfl, by decide +kernel, by decide +kernel⟩
def t_law_rights (c : Cn) : TS :=
  (tSeq (tAsg (tLst tNil) (gName 1))
  (tSeq (tFor (iRng1 (tCons (tCB (kLen c.K) (tCons (tVar 0) tNil)) tNil)) (gName 2)
  (C8.tCut (tIfS (tTest (tOp (cEq c.K) (tSl rSlS (tVar 0) (tPart (tVar 2)) (tPart (tOp (bAdd c.K) (tVar 2) (tC (.int 2))))) (tC (.str ".R"))))
  (tDrop (tBM c.K "list" rAppend (tVar 1) (tCons (tOp (bAdd c.K) (tOp (bAdd c.K) (tSl rSlS (tVar 0) tNoPart (tPart (tVar 2))) (tC (.str "R."))) (tSl rSlS (tVar 0) (tPart (tOp (bAdd c.K) (tVar 2) (tC (.int 2)))) tNoPart)) tNil)))
  tNext)
  (tIfS (tTest (tOp (cEq c.K) (tSl rSlS (tVar 0) (tPart (tVar 2)) (tPart (tOp (bAdd c.K) (tVar 2) (tC (.int 3))))) (tC (.str ".LR"))))
  (tDrop (tBM c.K "list" rAppend (tVar 1) (tCons (tOp (bAdd c.K) (tOp (bAdd c.K) (tSl rSlS (tVar 0) tNoPart (tPart (tVar 2))) (tC (.str "RL."))) (tSl rSlS (tVar 0) (tPart (tOp (bAdd c.K) (tVar 2) (tC (.int 3)))) tNoPart)) tNil)))
  tNext)))
  (tRet (tVar 1))))
def sp_law_rights (c : Cn) : Sp := fun vs H Q E => vs.length = 1 ∧ ∃ (l : List Nat), vs = [.str (tS l)] ∧ l.length ≤ 8 ∧
  ∀ (H' : Hp) (p : Addr) (xs : List (List Nat)), Keep Nil H H' → H p = none → H' p = some (.lst (xs.map fun x => V.str (tS x))) → xs.length ≤ 16 → (∀ x, x ∈ xs ↔ Mv false l x) → Q (.ref p) H'
theorem p_law_rights {c : Cn} {mg : Str → Option Value} (T : Txt c mg) {vs : List V} {H : Hp} {Q : VK} {E : XK} (h : sp_law_rights c vs H Q E) : t_law_rights c { nx := fun _ H' => Q .non H', rt := Q } (start N_law_rights vs) H := by
  obtain ⟨_, l, rfl, l8, k⟩ := h
  have ll : (tS l).length = l.length := tS_len l
  have lf : (tS l).length ≤ 100000 := by omega
  unfold t_law_rights
  repeat kaf_suf
  intro f hf
  repeat kaf_suf
  rw [ll]
  repeat kaf_suf
  refine for_range (lo := 0) (n := (l.length : Int).toNat) (fun i σ H' => ∃ (x2 : Option V) (xs : List (List Nat)), σ = [some (.str (tS l)), some (.ref f), x2] ∧ Keep Nil H H' ∧ H' f = some (.lst (xs.map fun x => V.str (tS x))) ∧ xs.length ≤ 2 * i ∧ ∀ x, x ∈ xs ↔ ∃ a, a < i ∧ LwS false l a x) ⟨_, [], rfl, Keep.alloc hf, upd_same, Nat.le_refl _, fun x => by simp⟩ ?_ ?_
  · rintro i σ H1 hi ⟨x2, xs, rfl, k1, e1, xl, hx⟩
    have hi' : i < l.length := by omega
    have i2 : (i : Int) + 2 = ((i + 2 : Nat) : Int) := by omega
    have i3 : (i : Int) + 3 = ((i + 3 : Nat) : Int) := by omega
    have i0 : (0 : Int) + (i : Int) = (i : Int) := by omega
    have q1 : ∀ (m : List Nat), decide (tS m = ".R") = decide (m = lA1 false) := fun m => by
      by_cases h : m = lA1 false
      · rw [decide_eq_true h, h]; rfl
      · rw [decide_eq_false h]; exact decide_eq_false fun z => h (tS_inj z)
    have q2 : ∀ (m : List Nat), decide (tS m = ".LR") = decide (m = lA2 false) := fun m => by
      by_cases h : m = lA2 false
      · rw [decide_eq_true h, h]; rfl
      · rw [decide_eq_false h]; exact decide_eq_false fun z => h (tS_inj z)
    have n2 : (tS (l.take i)).length + ("R." : Str).length ≤ sizeLine := by rw [tS_len, List.length_take, sizeLine_eq, show ("R." : Str).length = 2 from rfl]; omega
    have n3 : (tS (l.take i)).length + ("RL." : Str).length ≤ sizeLine := by rw [tS_len, List.length_take, sizeLine_eq, show ("RL." : Str).length = 3 from rfl]; omega
    have a2 : tS (l.take i) ++ ("R." : Str) = tS (l.take i ++ lB1 false) := tS_app _ _
    have a3 : tS (l.take i) ++ ("RL." : Str) = tS (l.take i ++ lB2 false) := tS_app _ _
    have m2 : (tS (l.take i ++ lB1 false)).length + (tS (l.drop (i + 2))).length ≤ sizeLine := by rw [tS_len, tS_len, List.length_append, List.length_take, List.length_drop, sizeLine_eq, show (lB1 false).length = 2 from rfl]; omega
    have m3 : (tS (l.take i ++ lB2 false)).length + (tS (l.drop (i + 3))).length ≤ sizeLine := by rw [tS_len, tS_len, List.length_append, List.length_take, List.length_drop, sizeLine_eq, show (lB2 false).length = 3 from rfl]; omega
    rw [i0]
    repeat kaf_suf
    refine ⟨fun σ H' => ∃ (xs : List (List Nat)), σ = [some (.str (tS l)), some (.ref f), some (.int (i : Int))] ∧ Keep Nil H H' ∧ H' f = some (.lst (xs.map fun x => V.str (tS x))) ∧ xs.length ≤ 2 * i + 1 ∧ ∀ x, x ∈ xs ↔ (∃ a, a < i ∧ LwS false l a x) ∨ ((l.drop i).take 2 = lA1 false ∧ x = l.take i ++ lB1 false ++ l.drop (i + 2)), ?_, ?_⟩
    · repeat kaf_suf
      refine v_slS lf ?_
      rw [i2, cut_mid hi']
      repeat kaf_suf
      rw [q1]
      refine r_ite (fun p => ?_) (fun p => ?_)
      · repeat kaf_suf
        refine v_slS lf ?_
        rw [cut_pre]
        repeat kaf_suf
        rw [a2]
        refine v_slS lf ?_
        rw [i2, cut_post]
        refine v_addS m2 ?_
        rw [tS_app]
        repeat kaf_suf
        refine ⟨xs ++ [l.take i ++ lB1 false ++ l.drop (i + 2)], rfl, k1.setN hf, by rw [List.map_append]; exact upd_same, by rw [List.length_append]; show xs.length + 1 ≤ _; omega, fun x => ?_⟩
        rw [List.mem_append, hx, List.mem_singleton]
        constructor
        · rintro (h | rfl)
          · exact .inl h
          · exact .inr ⟨p, rfl⟩
        · rintro (h | ⟨_, h⟩)
          · exact .inl h
          · exact .inr h
      · repeat kaf_suf
        refine ⟨xs, rfl, k1, e1, by omega, fun x => ?_⟩
        rw [hx]
        exact ⟨.inl, fun h => h.elim id fun h => absurd h.1 p⟩
    · rintro σ H2 ⟨ys, rfl, k2, e2, yl, hy⟩
      have last : ∀ x, ((∃ a, a < i ∧ LwS false l a x) ∨ LwS false l i x) ↔ ∃ a, a < i + 1 ∧ LwS false l a x := fun x => by
        constructor
        · rintro (⟨a, h1, h2⟩ | h)
          · exact ⟨a, by omega, h2⟩
          · exact ⟨i, by omega, h⟩
        · rintro ⟨a, h1, h2⟩
          by_cases e : a = i
          · exact .inr (e ▸ h2)
          · exact .inl ⟨a, by omega, h2⟩
      repeat kaf_suf
      refine v_slS lf ?_
      rw [i3, cut_mid hi']
      repeat kaf_suf
      rw [q2]
      refine r_ite (fun p => ?_) (fun p => ?_)
      · repeat kaf_suf
        refine v_slS lf ?_
        rw [cut_pre]
        repeat kaf_suf
        rw [a3]
        refine v_slS lf ?_
        rw [i3, cut_post]
        refine v_addS m3 ?_
        rw [tS_app]
        repeat kaf_suf
        refine ⟨_, ys ++ [l.take i ++ lB2 false ++ l.drop (i + 3)], rfl, k2.setN hf, by rw [List.map_append]; exact upd_same, by rw [List.length_append]; show ys.length + 1 ≤ _; omega, fun x => ?_⟩
        rw [← last, List.mem_append, hy, List.mem_singleton]
        constructor
        · rintro ((h | h) | rfl)
          · exact .inl h
          · exact .inr (.inl h)
          · exact .inr (.inr ⟨p, rfl⟩)
        · rintro (h | h | ⟨_, h⟩)
          · exact .inl (.inl h)
          · exact .inl (.inr h)
          · exact .inr h
      · repeat kaf_suf
        refine ⟨_, ys, rfl, k2, e2, by omega, fun x => ?_⟩
        rw [← last, hy]
        constructor
        · rintro (h | h)
          · exact .inl h
          · exact .inr (.inl h)
        · rintro (h | h | ⟨h, _⟩)
          · exact .inl h
          · exact .inr h
          · exact absurd h p
  · rintro σ H1 ⟨x2, xs, rfl, k1, e1, xl, hx⟩
    repeat kaf_suf
    refine k H1 f xs k1 hf e1 (by omega) fun x => ?_
    rw [hx, ← lwS_mv]
    constructor
    · rintro ⟨a, h1, h2⟩
      exact ⟨a, by omega, h2⟩
    · rintro ⟨a, h1, h2⟩
      exact ⟨a, by omega, h2⟩
theorem cal_law_rights {c : Cn} {mg : Str → Option Value} {base : Heap} (T : Txt c mg) : Cal c.P c.w c.K mg base CX0 1 "_law_rights" (sp_law_rights c) := by
  obtain ⟨f, fd, F, g, b⟩ := T.F_law_rights
  exact ⟨f, fd, ["strip"], F.ok (k := 0) (N := N_law_rights) sc_law_rights (fun vs H Q E h => h.1) (fun cdv A outer s H vs Q E hr h => ⟨t_law_rights c, by
  exact (pss_cons (ps_set (i := 1) sc_law_rights.nd rfl (Or.inl rfl) (pe_lst pa_nil))
  (pss_cons (ps_for PassesOwn.never rfl (pi_range1 rfl T.n_range (pa_cons (pe_callB k_len (by rfl) T.n_len (by decide +kernel) (pa_cons (pv 0) pa_nil)) pa_nil)) (pg_name (i := 2) sc_law_rights.nd rfl (Or.inl rfl))
  (C8.pss_cut (ps_if (pt_cmpR (o_eq (hu64 hr)) (pe_slice sl_str (pv 0) (po_some (pv 2)) (po_some (pe_op o_add (pv 2) pe_int))) pe_str (nomark _)) (pss_one (ps_expr (pe_bm PySem.F.plainAttrs_list PySem.F.slot_list_append PySem.F.type_list_append mt_append (pv 1) (pa_cons (pe_op o_add (pe_op o_add (pe_slice sl_str (pv 0) po_none (po_some (pv 2))) pe_str) (pe_slice sl_str (pv 0) (po_some (pe_op o_add (pv 2) pe_int)) po_none)) pa_nil)))) pss_nil)
  (pss_one (ps_if (pt_cmpR (o_eq (hu64 hr)) (pe_slice sl_str (pv 0) (po_some (pv 2)) (po_some (pe_op o_add (pv 2) pe_int))) pe_str (nomark _)) (pss_one (ps_expr (pe_bm PySem.F.plainAttrs_list PySem.F.slot_list_append PySem.F.type_list_append mt_append (pv 1) (pa_cons (pe_op o_add (pe_op o_add (pe_slice sl_str (pv 0) po_none (po_some (pv 2))) pe_str) (pe_slice sl_str (pv 0) (po_some (pe_op o_add (pv 2) pe_int)) po_none)) pa_nil)))) pss_nil))))
  (pss_one (ps_ret (pv 1))))), p_law_rights T h⟩), g, F.kp, b⟩

/-! games of strips -/
def stFs (b d : Addr) : List (Str × V) := [("book", .ref b), ("games", .ref d)]
theorem stFs_book {b d : Addr} : (stFs b d).lookup ("book" : Str) = some (.ref b) := by rfl
theorem stFs_games {b d : Addr} : (stFs b d).lookup ("games" : Str) = some (.ref d) := by rfl
theorem stFs_game {b d : Addr} : (stFs b d).lookup ("game" : Str) = none := by rfl
local macro_rules | `(tactic| kaf_suf) => `(tactic| first
  | ((with_reducible refine' r_kfld ?a (Txt.cl_Strips (by assumption)) (Txt.na_Strips_book (by assumption)) stFs_book ?_); (case a => (kaf_pre; done)))
  | ((with_reducible refine' r_kfld ?a (Txt.cl_Strips (by assumption)) (Txt.na_Strips_games (by assumption)) stFs_games ?_); (case a => (kaf_pre; done)))
  | ((with_reducible refine' r_kmeth ?a ?b ?_); (case a => (kaf_pre; done)); (case b => (exact stFs_game))))
abbrev skey (l : List Nat) : L2.Key := Sum.inr (tS l)
theorem skey_inj {l m : List Nat} (h : skey l = skey m) : l = m := by
  injection h with h
  exact tS_inj h
def KnF (P : List Nat → Nat → Prop) (kvs : List KX) (ls : List (List Nat)) : Prop := kvs.map (·.1) = ls.map skey ∧ ∀ q ∈ ls, ∃ g : Nat, valV kvs (skey q) = some (.int g) ∧ P q g
theorem keysS {kvs : List KX} {ks : List (List Nat)} (e : kvs.map (·.1) = ks.map skey) (z : List Nat) : (valV kvs (skey z)).isSome = decide (z ∈ ks) := by
  rw [← valV_any]
  have : (kvs.any fun kv => decide (kv.1 = skey z)) = (kvs.map (·.1)).any fun k => decide (k = skey z) := by rw [List.any_map]; rfl
  rw [this, e, List.any_map]
  by_cases h : z ∈ ks
  · rw [decide_eq_true h]
    exact List.any_eq_true.mpr ⟨z, h, by simp⟩
  · rw [decide_eq_false h]
    exact List.any_eq_false.mpr fun y hy => by
      simp only [Function.comp, decide_eq_true_eq]
      intro q; exact h (skey_inj q ▸ hy)
def addQ (ks : List (List Nat)) (q : List Nat) : List (List Nat) := if q ∈ ks then ks else ks ++ [q]
theorem addQ_mem {ks : List (List Nat)} {q r : List Nat} : r ∈ addQ ks q ↔ r ∈ ks ∨ r = q := by
  unfold addQ
  split
  · rename_i h
    exact ⟨.inl, fun z => z.elim id fun z => z ▸ h⟩
  · rw [List.mem_append, List.mem_singleton]
theorem keys_put {kvs : List KX} {ks : List (List Nat)} (h : kvs.map (·.1) = ks.map skey) (q : List Nat) (v : V) : (putK kvs (skey q) v).map (·.1) = (addQ ks q).map skey := by
  have hk := keysS h q
  unfold putK addQ
  rw [valV_any, hk]
  by_cases m : q ∈ ks
  · rw [decide_eq_true m, if_pos rfl, if_pos m, ← h, List.map_map]
    refine List.map_congr_left fun x _ => ?_
    show (if x.1 = skey q then (x.1, v) else x).1 = x.1
    split <;> rfl
  · rw [decide_eq_false m, if_neg (fun z => by cases z), if_neg m, List.map_append, List.map_append, h]
    rfl
theorem KnF.put {P : List Nat → Nat → Prop} {kvs : List KX} {ks : List (List Nat)} (h : KnF P kvs ks) {q : List Nat} {g : Nat} (p : P q g) : KnF P (putK kvs (skey q) (.int g)) (addQ ks q) := by
  refine ⟨keys_put h.1 q _, fun r hr => ?_⟩
  rw [valV_put]
  by_cases z : r = q
  · subst z
    exact ⟨g, if_pos rfl, p⟩
  · rw [if_neg (fun e => z (skey_inj e))]
    exact h.2 r ((addQ_mem.mp hr).resolve_right z)
structure KnS (H : Hp) (d : Addr) (gs : List Gm) (ks : List (List Nat)) : Prop where
  ex : ∃ kvs : List KX, H d = some (.dK kvs) ∧ KnF (SG gs) kvs ks
  nd : ks.Nodup
  nm : ∀ q ∈ ks, OkS q
theorem KnS.few {H : Hp} {d : Addr} {gs : List Gm} {ks : List (List Nat)} (K : KnS H d gs ks) : ks.length ≤ 9841 := by
  have := nodup_le ks (allN 8) K.nd fun q hq => allN_mem 8 q (K.nm q hq).1 (K.nm q hq).2
  have h := allN_len 8
  have e : (3 : Nat) ^ (8 + 1) = 19683 := by decide
  omega
theorem KnS.keep {H H' : Hp} {d : Addr} {gs : List Gm} {ks : List (List Nat)} {N : Addr → Prop} (K : KnS H d gs ks) (k : Keep N H H') (n : ¬ N d) : KnS H' d gs ks := by
  obtain ⟨kvs, e, h⟩ := K.ex
  exact ⟨⟨kvs, k.get n e, h⟩, K.nd, K.nm⟩
theorem KnS.more {H : Hp} {d : Addr} {gs f : List Gm} {ks : List (List Nat)} (K : KnS H d gs ks) : KnS H d (gs ++ f) ks := by
  obtain ⟨kvs, e, h⟩ := K.ex
  exact ⟨⟨kvs, e, h.1, fun q hq => by obtain ⟨g, a, b⟩ := h.2 q hq; exact ⟨g, a, b.more⟩⟩, K.nd, K.nm⟩
theorem KnS.nM {c : Cn} {H : Hp} {d b : Addr} {M : Addr → Prop} {gs gs' : List Gm} {ds : List Int} {ks : List (List Nat)} (K : KnS H d gs' ks) (B : BookAt c H b M gs ds) : ¬ M d := fun z => by
  obtain ⟨kvs, e, _⟩ := K.ex
  rcases B.cell z with ⟨l, h⟩ | ⟨φ, h⟩ <;> rw [e] at h <;> cases h
theorem KnS.nin {P : Program} {w : World} {K : PySem.W.Frag} {H : Hp} {Q : VK} {d : Addr} {gs : List Gm} {ks : List (List Nat)} {q : List Nat} (k : KnS H d gs ks) (h : Q (.bl (!decide (q ∈ ks))) H) : cNotIn P w K (.str (tS q)) (.ref d) H Q := by
  obtain ⟨kvs, e, kf⟩ := k.ex
  exact .inr (.inr (.inr (.inl ⟨d, _, rfl, DGet.k (k := skey q) e, by rw [keysS kf.1]; simpa using h⟩)))
theorem KnS.ix {P : Program} {w : World} {K : PySem.W.Frag} {H : Hp} {Q : VK} {d : Addr} {gs : List Gm} {ks : List (List Nat)} {q : List Nat} (k : KnS H d gs ks) (m : q ∈ ks) (h : ∀ g : Nat, SG gs q g → Q (.int g) H) : bIx P w K (.ref d) (.str (tS q)) H Q := by
  obtain ⟨kvs, e, kf⟩ := k.ex
  obtain ⟨g, h1, h2⟩ := kf.2 q m
  exact .inr (.inr (.inr (.inl ⟨d, _, rfl, h1 ▸ DGet.k (k := skey q) e, h g h2⟩)))
theorem KnS.set {P : Program} {w : World} {H : Hp} {Q : Hp → Prop} {d : Addr} {gs : List Gm} {ks : List (List Nat)} {q : List Nat} {g : Nat} (k : KnS H d gs ks) (m : OkS q) (ng : SG gs q g) (h : ∀ o, KnS (upd H d o) d gs (addQ ks q) → Q (upd H d o)) : bSet P w (.ref d) (.str (tS q)) (.int g) H Q := by
  obtain ⟨kvs, e, kf⟩ := k.ex
  have fw := k.few
  have len : kvs.length = ks.length := by
    have := congrArg List.length kf.1
    rw [List.length_map, List.length_map] at this
    exact this
  refine .inr (.inl ⟨d, _, rfl, DPut.k (k := skey q) e (by rw [len, sizeLine_eq]; omega), h _ ⟨⟨_, upd_same, kf.put ng⟩, ?_, fun r hr => ?_⟩⟩)
  · unfold addQ
    split
    · exact k.nd
    · rename_i n
      refine List.nodup_append.mpr ⟨k.nd, List.nodup_cons.mpr ⟨List.not_mem_nil, List.nodup_nil⟩, fun a ha b hb => ?_⟩
      cases List.mem_singleton.mp hb
      exact fun z => n (z ▸ ha)
  · rcases addQ_mem.mp hr with hr | hr
    · exact k.nm r hr
    · subst hr
      exact m
def StrAt (c : Cn) (H : Hp) (S b d : Addr) : Prop := ∃ dx, H S = some (.ins c.cStrips dx (stFs b d))
abbrev N_Strips_init : List Str := ["self", "book"]
theorem sc_Strips_init : FnScope N_Strips_init ["self", "book"] (defScope s_Strips_init) := ⟨rfl, rfl, rfl, by decide +kernel, rfl, by decide +kernel, by decide +kernel⟩
def t_Strips_init (c : Cn) : TS :=
  (tSeq (sFld c.K (tVar 0) (tVar 1) "book")
  (sFld c.K (tVar 0) (uDNew c.P c.w) "games"))
def sp_Strips_init (c : Cn) : Sp := fun vs H Q E => vs.length = 2 ∧ ∃ (x b dx : Addr), vs = [.ref x, .ref b] ∧ H x = some (.ins c.cStrips dx []) ∧
  ∀ (H' : Hp) (d : Addr), H d = none → Keep (fun a => a = x) H H' → StrAt c H' x b d → H' d = some (.dK []) → Q .non H'
theorem p_Strips_init {c : Cn} {mg : Str → Option Value} (T : Txt c mg) {vs : List V} {H : Hp} {Q : VK} {E : XK} (h : sp_Strips_init c vs H Q E) : t_Strips_init c { nx := fun _ H' => Q .non H', rt := Q } (start N_Strips_init vs) H := by
  obtain ⟨_, x, b, dx, rfl, hx, k⟩ := h
  unfold t_Strips_init
  repeat kaf_suf
  refine r_ksfld (by kaf_pre) (Txt.cl_Strips T) (Txt.na_Strips_book T) (by decide) ?_
  repeat kaf_suf
  refine .inl ⟨true, fun tk htk => ?_⟩
  rw [if_pos rfl]
  have hx1 : (upd (upd H x (.ins c.cStrips dx (putF (Str.ofString "book") (.ref b) []))) tk (.dK [])) x = some (.ins c.cStrips dx (putF (Str.ofString "book") (.ref b) [])) := get_new htk upd_same
  have ntx : tk ≠ x := ne_new htk upd_same
  have htk0 : H tk = none := none_of_upd htk
  repeat kaf_suf
  refine r_ksfld hx1 (Txt.cl_Strips T) (Txt.na_Strips_games T) (by show 1 < 1000; decide) ?_
  repeat kaf_suf
  exact k _ tk htk0 (Keep.set (M := fun a => a = x) (Keep.new (Keep.set Keep.refl rfl) htk) rfl) ⟨dx, upd_same⟩ (get_set ntx upd_same)
theorem mak_Strips {c : Cn} {mg : Str → Option Value} {base : Heap} (T : Txt c mg) : Mak c.P c.w c.K mg base CX0 1 "Strips" c.cStrips (sp_Strips_init c) := by
  obtain ⟨f, fd, F, g, b⟩ := T.F_Strips_init
  exact ⟨f, fd, ["self", "book"], g, F.ok (k := 0) (N := N_Strips_init) sc_Strips_init (fun vs H Q E h => h.1) (fun cdv A outer s H vs Q E hr h => ⟨t_Strips_init c, by
  exact (pss_cons (ps_fld (pv 0) (pv 1) rfl)
  (pss_one (ps_fld (pv 0) pe_dnew rfl))), p_Strips_init T h⟩), T.g_Strips, b⟩
def MD (M : Addr → Prop) (d : Addr) : Addr → Prop := fun x => M x ∨ x = d
theorem MD.lst {H H' : Hp} {d l : Addr} {M : Addr → Prop} {gs' : List Gm} {ks : List (List Nat)} {xs : List V} (K : KnS H d gs' ks) (nl : ¬ M l) (e : H l = some (.lst xs)) (k : Keep (MD M d) H H') : H' l = some (.lst xs) := k.get (fun z => z.elim nl fun z => by
  obtain ⟨kvs, e', _⟩ := K.ex
  rw [z, e'] at e; cases e) e
theorem StrAt.keep {c : Cn} {H H' : Hp} {S b d : Addr} {M : Addr → Prop} {gs gs' : List Gm} {ds : List Int} {ks : List (List Nat)} (s : StrAt c H S b d) (B : BookAt c H b M gs ds) (K : KnS H d gs' ks) (k : Keep (MD M d) H H') : StrAt c H' S b d := by
  obtain ⟨dx, e⟩ := s
  exact ⟨dx, k.get (fun z => z.elim (fun z => B.insN e z) fun z => by
    obtain ⟨kvs, e', _⟩ := K.ex
    rw [z, e'] at e; cases e) e⟩
theorem StrAt.same {c : Cn} {H H' : Hp} {S b d : Addr} (s : StrAt c H S b d) (k : Keep Nil H H') : StrAt c H' S b d := by
  obtain ⟨dx, e⟩ := s
  exact ⟨dx, k.get (fun z => z) e⟩
def sp_Strips_game (n : Nat) (c : Cn) : Sp := fun vs H Q E => vs.length = 2 ∧ ∃ (S b d : Addr) (M : Addr → Prop) (gs : List Gm) (ds : List Int) (ls : List (List Nat)) (l : List Nat), vs = [.ref S, .str (tS l)] ∧ StrAt c H S b d ∧ BookAt c H b M gs ds ∧ KnS H d gs ls ∧ InvS gs ∧ OkS l ∧ mu l < n ∧
  ∀ (H' : Hp) (f : List Gm) (e : List Int) (ls' : List (List Nat)) (g : Nat), Keep (MD M d) H H' → BookAt c H' b M (gs ++ f) (ds ++ e) → KnS H' d (gs ++ f) ls' → InvS (gs ++ f) → SG (gs ++ f) l g → Q (.int g) H'
theorem z_Strips_game {c : Cn} {vs : List V} {H : Hp} {Q : VK} {E : XK} (h : sp_Strips_game 0 c vs H Q E) : False := by
  obtain ⟨_, _, _, _, _, _, _, _, l, _, _, _, _, _, _, h, _⟩ := h
  omega
theorem KnS.ne {H : Hp} {d D : Addr} {gs : List Gm} {ks : List (List Nat)} (K : KnS H d gs ks) (hD : H D = none) : ¬ d = D := fun z => by
  obtain ⟨kvs, e, _⟩ := K.ex
  rw [z, hD] at e; cases e
theorem paired_get' {α β : Type} {R : α → β → Prop} : ∀ {xs : List α} {ys : List β} {i : Nat} {x : α}, Paired R xs ys → xs[i]? = some x → ∃ y, ys[i]? = some y ∧ R x y
  | _, _, _, _, .nil, h => by simp at h
  | _, _, 0, _, .cons r _, h => by simp at h; subst h; exact ⟨_, rfl, r⟩
  | _, _, i + 1, _, .cons _ t, h => by
    obtain ⟨y, h1, h2⟩ := paired_get' (i := i) t (by simpa using h)
    exact ⟨y, by simpa using h1, h2⟩
theorem games_lc {n : Nat} {c : Cn} {mg : Str → Option Value} (T : Txt c mg) {S b d p : Addr} {M : Addr → Prop} {gs : List Gm} {ds : List Int} {v : V} {ks : List (List Nat)} {s : Bool} {l : List Nat} {xs : List (List Nat)} {x2 x3 : Option V} {H : Hp} {Q : VK}
    (St : StrAt c H S b d) (B : BookAt c H b M gs ds) (K : KnS H d gs ks) (I : InvS gs) (ok : OkS l) (ml : mu l ≤ n) (ep : H p = some (.lst (xs.map fun x => V.str (tS x)))) (np : ¬ M p) (hx : ∀ x, x ∈ xs ↔ Mv s l x) (xl : xs.length ≤ 16)
    (k : ∀ (H' : Hp) (f : List Gm) (e : List Int) (ks' : List (List Nat)) (q : Addr) (ms : List Int), Keep (MD M d) H H' → BookAt c H' b M (gs ++ f) (ds ++ e) → KnS H' d (gs ++ f) ks' → InvS (gs ++ f) → H q = none → H' q = some (.lst (ms.map V.int)) → ms.length ≤ 16 → MsS (gs ++ f) s l ms → Q (.ref q) H') :
    kLc (Itl c.K p) (gName 4) tYes (tMeth c.cStrips "game" (sp_Strips_game n c) [] E0 (tVar 0) (tCons (tVar 4) tNil)) [4] [some (.ref S), some v, x2, x3, none] H Q := by
  intro D hD
  have nD : ¬ M D := B.new hD
  have dD := K.ne hD
  refine lc_list (xs := xs.map fun x => V.str (tS x)) (fun j H' => ∃ (f : List Gm) (e : List Int) (ks' : List (List Nat)) (ms : List Int), Keep (MD M d) H H' ∧ StrAt c H' S b d ∧ BookAt c H' b M (gs ++ f) (ds ++ e) ∧ KnS H' d (gs ++ f) ks' ∧ InvS (gs ++ f) ∧ H' D = some (.lst (ms.map V.int)) ∧ Paired (fun m x => ∃ g : Nat, m = (g : Int) ∧ SG (gs ++ f) x g) ms (xs.take j)) ⟨[], [], ks, [], Keep.alloc hD, St.same (Keep.alloc hD), by rw [List.append_nil, List.append_nil]; exact B.same (Keep.alloc hD), by rw [List.append_nil]; exact K.keep (Keep.alloc (M := Nil) hD) fun z => z, by rw [List.append_nil]; exact I, upd_same, .nil⟩ ?_ ?_ ?_
  · rintro j H' _ ⟨_, _, _, _, k1, _⟩
    exact SqL.of (MD.lst K np ep k1)
  · rintro j x H1 hj ⟨f, e, ks1, ms, k1, S1, B1, K1, I1, eD, pm⟩
    rw [List.getElem?_map] at hj
    obtain ⟨x, hjx, rfl⟩ := Option.map_eq_some_iff.mp hj
    have mv := (hx x).mp (List.mem_of_getElem? hjx)
    have less := mv.less
    have pl := Paired.length pm
    have hjl := (List.getElem?_eq_some_iff.mp hjx).1
    rw [List.length_take] at pl
    obtain ⟨dxs, es⟩ := id S1
    repeat kaf_suf
    refine ⟨rfl, ?_⟩
    repeat kaf_suf
    refine ⟨rfl, S, b, d, M, _, _, ks1, x, rfl, S1, B1, K1, I1, mv.ok ok, by omega, fun H2 f2 e2 ks2 g2 k2 B2 K2 I2 sg => ?_⟩
    have eD2 := MD.lst K1 nD eD k2
    have S2 := S1.keep B1 K1 k2
    repeat kaf_suf
    have kD : Keep (fun y => y = D) H2 (upd H2 D (.lst (ms.map V.int ++ [.int g2]))) := Keep.refl.set rfl
    refine ⟨ms.map V.int, eD2, few1 (by rw [List.length_map]; omega), f ++ f2, e ++ e2, ks2, ms ++ [(g2 : Int)], (k1.trans k2).setN hD, ?_, ?_, ?_, ?_, by rw [List.map_append]; exact upd_same, ?_⟩
    · obtain ⟨dx, e⟩ := S2
      exact ⟨dx, get_set (fun z => by rw [← z, e] at eD2; cases eD2) e⟩
    · rw [← List.append_assoc, ← List.append_assoc]
      exact B2.keep kD (fun x z => by cases z; exact ⟨_, eD2⟩) fun x m z => nD (z ▸ m)
    · rw [← List.append_assoc]
      exact K2.keep kD dD
    · rw [← List.append_assoc]; exact I2
    · rw [List.take_succ, hjx, ← List.append_assoc]
      exact Paired.snoc (paired_keep pm fun m x ⟨g, e, h⟩ => ⟨g, e, h.more⟩) ⟨g2, rfl, sg⟩
  · rintro H' ⟨f, e, ks1, ms, k1, S1, B1, K1, I1, eD, pm⟩
    rw [List.take_of_length_le (by rw [List.length_map]; exact Nat.le_refl _)] at pm
    refine k _ f e ks1 D ms k1 B1 K1 I1 hD eD (by rw [Paired.length pm]; exact xl) ⟨fun x mv => ?_, fun z hz => ?_⟩
    · obtain ⟨i, hi, ei⟩ := List.getElem_of_mem ((hx x).mpr mv)
      obtain ⟨m, hm, g, rfl, sg⟩ := paired_get pm (show xs[i]? = some x by rw [List.getElem?_eq_getElem hi, ei])
      exact ⟨g, List.mem_of_getElem? hm, sg⟩
    · obtain ⟨i, hi, ei⟩ := List.getElem_of_mem hz
      obtain ⟨x, hx', g, rfl, sg⟩ := paired_get' pm (show ms[i]? = some z by rw [List.getElem?_eq_getElem hi, ei])
      exact ⟨x, g, (hx x).mp (List.mem_of_getElem? hx'), rfl, sg⟩
abbrev N_Strips_game : List Str := ["self", "text", "lefts", "rights", "one"]
theorem sc_Strips_game : FnScope N_Strips_game ["self", "text"] (defScope s_Strips_game) := ⟨rfl, rfl, rfl, by decide +kernel, rfl, by decide +kernel, by decide +kernel⟩
def t_Strips_game (n : Nat) (c : Cn) : TS :=
  (C8.tCut (tIfS (tTest (tOp (cNotIn c.P c.w c.K) (tVar 1) (tFld c.K (tVar 0) "games")))
  (tSeq (tAsg (tLc (iAny c.K (tCall (sp_strips_behind c) [] E0 (tCons (tVar 1) (tCons (tC (.str "L")) (tCons (tC (.int 1)) tNil))))) (gName 4) tYes (tMeth c.cStrips "game" (sp_Strips_game n c) [] E0 (tVar 0) (tCons (tVar 4) tNil)) [4]) (gName 2))
  (tSeq (tAsg (tLc (iAny c.K (tCall (sp_strips_behind c) [] E0 (tCons (tVar 1) (tCons (tC (.str "R")) (tCons (tOp bSub (tC (.int 0)) (tC (.int 1))) tNil))))) (gName 4) tYes (tMeth c.cStrips "game" (sp_Strips_game n c) [] E0 (tVar 0) (tCons (tVar 4) tNil)) [4]) (gName 3))
  (tAsg (tMeth c.cBook "game" (sp_Book_game c) [] E0 (tFld c.K (tVar 0) "book") (tCons (tVar 2) (tCons (tVar 3) tNil))) (gSub (tFld c.K (tVar 0) "games") (tVar 1) (bSet c.P c.w)))))
  tNext)
  (tRet (tOp (bIx c.P c.w c.K) (tFld c.K (tVar 0) "games") (tVar 1))))
theorem p_Strips_game {n : Nat} {c : Cn} {mg : Str → Option Value} (T : Txt c mg) {vs : List V} {H : Hp} {Q : VK} {E : XK} (h : sp_Strips_game (n + 1) c vs H Q E) : t_Strips_game n c { nx := fun _ H' => Q .non H', rt := Q } (start N_Strips_game vs) H := by
  obtain ⟨_, S, b, d, M, gs, ds, ls, l, rfl, St, B, K, I, ok, ml, k⟩ := h
  obtain ⟨dxs, es⟩ := id St
  unfold t_Strips_game
  refine ⟨fun σ H' => ∃ (x2 x3 x4 : Option V) (f : List Gm) (e : List Int) (ks' : List (List Nat)), σ = [some (.ref S), some (.str (tS l)), x2, x3, x4] ∧ Keep (MD M d) H H' ∧ StrAt c H' S b d ∧ BookAt c H' b M (gs ++ f) (ds ++ e) ∧ KnS H' d (gs ++ f) ks' ∧ InvS (gs ++ f) ∧ l ∈ ks', ?_, ?_⟩
  rotate_left
  · rintro σ H' ⟨x2, x3, x4, f, e, ks', rfl, k1, S1, B1, K1, I1, hl⟩
    obtain ⟨dx1, es1⟩ := id S1
    repeat kaf_suf
    refine K1.ix hl fun g sg => ?_
    exact k H' f e ks' g k1 B1 K1 I1 sg
  repeat kaf_suf
  refine K.nin ?_
  repeat kaf_suf
  refine r_iteN (fun p => ?_) (fun p => ?_)
  · repeat kaf_suf
    refine ⟨rfl, l, true, rfl, ok, fun H1 p1 xs k1 hp1 ep1 xl hx => ?_⟩
    have np1 := B.new hp1
    repeat kaf_suf
    refine games_lc T (s := true) (l := l) (St.same k1) (B.same k1) (K.keep k1 fun z => z) I ok (Nat.le_of_lt_succ ml) ep1 np1 hx xl fun H2 f2 e2 ks2 q2 ms2 k2 B2 K2 I2 hq2 eq2 m2 M2 => ?_
    have K12 := k1.weak.trans k2
    have S2 := (St.same k1).keep (B.same k1) (K.keep k1 fun z => z) k2
    have nq2 : ¬ M q2 := (B.same k1).new hq2
    clear k1 k2 ep1 hp1
    obtain ⟨dx2, es2⟩ := id S2
    repeat kaf_suf
    refine ⟨rfl, l, false, rfl, ok, fun H3 p3 ys k3 hp3 ep3 yl hy => ?_⟩
    have np3 := B2.new hp3
    have eq3 := k3.get (fun z => z) eq2
    repeat kaf_suf
    refine games_lc T (s := false) (l := l) (S2.same k3) (B2.same k3) (K2.keep k3 fun z => z) I2 ok (Nat.le_of_lt_succ ml) ep3 np3 hy yl fun H4 f4 e4 ks4 q4 ms4 k4 B4 K4 I4 hq4 eq4 m4 M4 => ?_
    have S4 := (S2.same k3).keep (B2.same k3) (K2.keep k3 fun z => z) k4
    have eq24 := MD.lst (K2.keep k3 fun z => z) nq2 eq3 k4
    have nq4 : ¬ M q4 := (B2.same k3).new hq4
    have K14 := K12.trans (k3.weak.trans k4)
    clear k3 k4 K12 eq2 eq3 ep3 hp3
    have few := I4.few
    have M2' : MsS (gs ++ f2 ++ f4) true l ms2 := M2.more
    have rg : ∀ m ∈ ms2 ++ ms4, 0 ≤ m ∧ m < ((gs ++ f2 ++ f4).length : Int) := fun m hm => by
      rcases List.mem_append.mp hm with hm | hm
      · obtain ⟨x, h, _, rfl, sg⟩ := M2'.2 m hm
        have := sg.lt
        omega
      · obtain ⟨x, h, _, rfl, sg⟩ := M4.2 m hm
        have := sg.lt
        omega
    obtain ⟨I5, sg5⟩ := inv_add B4.ok I4 ok M2' M4
    obtain ⟨f5, ef5, _⟩ := addG_grow (gs := gs ++ f2 ++ f4) (k := (canon ms2, canon ms4))
    obtain ⟨dx4, es4⟩ := id S4
    obtain ⟨bx, bm, bn, bd, hb4⟩ := B4.ins_
    repeat kaf_suf
    refine ⟨rfl, b, q2, q4, M, _, _, ms2, ms4, rfl, B4, eq24, eq4, nq2, nq4, by omega, by omega, by omega, rg, fun H5 e5 k5 B5 => ?_⟩
    rw [ef5] at B5 I5 sg5 ⊢
    have K5 := (K4.keep k5 (K4.nM B4)).more (f := f5)
    have S5 := S4.keep B4 K4 (k5.mono fun _ z => .inl z)
    obtain ⟨dx5, es5⟩ := id S5
    repeat kaf_suf
    refine K5.set ok sg5 fun o K6 => ?_
    have kd : Keep (fun y => y = d) H5 (upd H5 d o) := Keep.refl.set rfl
    have nd5 := K5.nM B5
    have B6 := B5.keepY kd (fun x z => by
      cases z
      obtain ⟨kvs, e, _⟩ := K5.ex
      rw [e]
      exact ⟨fun l z => (by cases z), fun C d l z => (by cases z)⟩) fun x m z => nd5 (z ▸ m)
    have S6 := S5.keep B5 K5 (kd.mono fun _ z => .inr z)
    have KK : Keep (MD M d) H (upd H5 d o) := (K14.trans (k5.mono fun _ z => .inl z)).trans (kd.mono fun _ z => .inr z)
    rw [List.append_assoc, List.append_assoc, List.append_assoc, List.append_assoc] at B6
    rw [List.append_assoc, List.append_assoc] at K6 I5
    exact ⟨_, _, _, f2 ++ (f4 ++ f5), _, _, rfl, KK, S6, B6, K6, I5, addQ_mem.mpr (.inr rfl)⟩
  · repeat kaf_suf
    exact ⟨_, _, _, [], [], ls, rfl, Keep.refl, St, by rw [List.append_nil, List.append_nil]; exact B, by rw [List.append_nil]; exact K, by rw [List.append_nil]; exact I, p⟩
theorem met_Strips_game {c : Cn} {mg : Str → Option Value} {base : Heap} (T : Txt c mg) : ∀ n : Nat, Met c.P c.w c.K mg base CX0 (5 + n) c.cStrips "game" (sp_Strips_game n c)
  | 0 => by
    obtain ⟨f, fd, F, g, b⟩ := T.F_Strips_game
    exact ⟨f, fd, ["self", "text"], T.cl_Strips, g, F.ok (k := 4) (N := N_Strips_game) sc_Strips_game (fun vs H Q E h => (z_Strips_game h).elim) (fun cdv A outer s H vs Q E hr h => (z_Strips_game h).elim), b⟩
  | n + 1 => by
    obtain ⟨f, fd, F, g, b⟩ := T.F_Strips_game
    exact ⟨f, fd, ["self", "text"], T.cl_Strips, g, F.ok (k := 5 + n) (N := N_Strips_game) sc_Strips_game (fun vs H Q E h => h.1) (fun cdv A outer s H vs Q E hr h => ⟨t_Strips_game n c, by
  exact (C8.pss_cut (ps_if (pt_cmpR (o_notin (hu65 hr)) (pv 1) (pe_fld (pv 0) rfl) (by rfl)) (pss_cons (ps_setLc (i := 2) (own := [("one", 4)]) rfl sc_Strips_game.nd rfl rfl (sw_true rfl rfl rfl (by decide +kernel)) (pi_any (e_call (cal_strips_behind T) hr (by omega) pass0 rfl (pa_cons (pv 1) (pa_cons pe_str (pa_cons pe_int pa_nil))))) (blkOk_by (own := [("one", 4)]) (N := N_Strips_game) (sc := defScope s_Strips_game) (by decide +kernel)) (fun _ _ _ _ _ => (pg_name (i := 4) sc_Strips_game.nd rfl (Or.inl rfl))) (fun _ _ _ _ _ => pts_nil) (fun _ _ _ _ _ => (e_meth (met_Strips_game T n) hr (by omega) pass0 (pv 0) (pa_cons (pv 4) pa_nil))))
  (pss_cons (ps_setLc (i := 3) (own := [("one", 4)]) rfl sc_Strips_game.nd rfl rfl (sw_true rfl rfl rfl (by decide +kernel)) (pi_any (e_call (cal_strips_behind T) hr (by omega) pass0 rfl (pa_cons (pv 1) (pa_cons pe_str (pa_cons (pe_op o_sub pe_int pe_int) pa_nil))))) (blkOk_by (own := [("one", 4)]) (N := N_Strips_game) (sc := defScope s_Strips_game) (by decide +kernel)) (fun _ _ _ _ _ => (pg_name (i := 4) sc_Strips_game.nd rfl (Or.inl rfl))) (fun _ _ _ _ _ => pts_nil) (fun _ _ _ _ _ => (e_meth (met_Strips_game T n) hr (by omega) pass0 (pv 0) (pa_cons (pv 4) pa_nil))))
  (pss_one (ps_asg (e_meth (met_Book_game T) hr (by omega) pass0 (pe_fld (pv 0) rfl) (pa_cons (pv 2) (pa_cons (pv 3) pa_nil))) (pg_sub (pe_fld (pv 0) rfl) (pv 1) (s_set (hu64 hr))))))) pss_nil)
  (pss_one (ps_ret (pe_ix (x_ix (hu64 hr)) (pe_fld (pv 0) rfl) (pv 1) (fun _ _ => rfl))))), p_Strips_game T h⟩), b⟩
abbrev N_strip_game : List Str := ["book", "strip"]
theorem sc_strip_game : FnScope N_strip_game ["book", "strip"] (defScope s_strip_game) := ⟨rfl, rfl, rfl, by decide +kernel, rfl, by decide +kernel, by decide +kernel⟩
def t_strip_game (c : Cn) : TS :=
  (tSeq (tIfS (tNot (tTru c.K (tCall (sp_is_strip c) [] E0 (tCons (tVar 1) tNil))))
  tNever
  tNext)
  (tRet (tMeth c.cStrips "game" (sp_Strips_game 70 c) [] E0 (tMake c.cStrips (sp_Strips_init c) [] E0 (tCons (tVar 0) tNil)) (tCons (tVar 1) tNil))))
def sp_strip_game (c : Cn) : Sp := fun vs H Q E => vs.length = 2 ∧ ∃ (b : Addr) (M : Addr → Prop) (gs : List Gm) (ds : List Int) (l : List Nat), vs = [.ref b, .str (tS l)] ∧ BookAt c H b M gs ds ∧ InvS gs ∧ OkS l ∧
  ∀ (H' : Hp) (f : List Gm) (e : List Int) (g : Nat), Keep M H H' → BookAt c H' b M (gs ++ f) (ds ++ e) → InvS (gs ++ f) → SG (gs ++ f) l g → Q (.int g) H'
theorem p_strip_game {c : Cn} {mg : Str → Option Value} (T : Txt c mg) {vs : List V} {H : Hp} {Q : VK} {E : XK} (h : sp_strip_game c vs H Q E) : t_strip_game c { nx := fun _ H' => Q .non H', rt := Q } (start N_strip_game vs) H := by
  obtain ⟨_, b, M, gs, ds, l, rfl, B, I, ok, k⟩ := h
  have mu8 := ok.mu
  unfold t_strip_game
  repeat kaf_suf
  refine ⟨rfl, l, rfl, ok, fun H1 k1 => ?_⟩
  repeat kaf_suf
  intro x dx hx hdx ndx
  repeat kaf_suf
  have kI : Keep Nil H1 (upd (upd H1 dx (.own x)) x (.ins c.cStrips dx [])) := (Keep.alloc hdx).setN hx
  refine ⟨rfl, x, b, dx, rfl, upd_same, fun H2 d hd k2 S2 ed => ⟨rfl, ?_⟩⟩
  have k12 : Keep Nil H1 H2 := fun a o n h => k2 a o (fun z => by rw [z, hx] at h; cases h) (kI a o n h)
  have hd1 : H1 d = none := keep_none kI hd
  have k02 := k1.trans k12
  have hd0 : H d = none := keep_none k1 hd1
  have B2 := B.same k02
  have K2 : KnS H2 d gs [] := ⟨⟨[], ed, rfl, fun q hq => nomatch hq⟩, List.nodup_nil, fun q hq => nomatch hq⟩
  obtain ⟨dx2, es2⟩ := id S2
  clear kI k2 k12 hdx hx hd hd1
  repeat kaf_suf
  refine ⟨rfl, x, b, d, M, gs, ds, [], l, rfl, S2, B2, K2, I, ok, by omega, fun H3 f e ls' g k3 B3 K3 I3 sg => ?_⟩
  exact k H3 f e g (fun a o n h => k3 a o (fun z => z.elim n fun z => by rw [z, hd0] at h; cases h) (k02 a o (fun z => z) h)) B3 I3 sg
theorem cal_strip_game {c : Cn} {mg : Str → Option Value} {base : Heap} (T : Txt c mg) : Cal c.P c.w c.K mg base CX0 76 "strip_game" (sp_strip_game c) := by
  obtain ⟨f, fd, F, g, b⟩ := T.F_strip_game
  exact ⟨f, fd, ["book", "strip"], F.ok (k := 75) (N := N_strip_game) sc_strip_game (fun vs H Q E h => h.1) (fun cdv A outer s H vs Q E hr h => ⟨t_strip_game c, by
  exact (pss_cons (ps_if (pt_not (p_tru (e_call (cal_is_strip T) hr (by decide) pass0 rfl (pa_cons (pv 1) pa_nil)))) (pss_one ps_never) pss_nil)
  (pss_one (ps_ret (e_meth (met_Strips_game T 70) hr (by decide) pass0 (e_make (mak_Strips T) hr (by decide) pass0 rfl (pa_cons (pv 0) pa_nil)) (pa_cons (pv 1) pa_nil))))), p_strip_game T h⟩), g, F.kp, b⟩

/-! the law's strip -/
theorem foldl_reps (x : Nat) : ∀ (k : Nat) (acc : Array Nat), ((List.replicate k #[x]).foldl (· ++ ·) acc) = (acc.toList ++ List.replicate k x).toArray
  | 0, acc => by simp
  | k + 1, acc => by
    rw [List.replicate_succ, List.foldl_cons, foldl_reps x k]
    simp [List.replicate_succ]
theorem mul_rep (x : Nat) {n : Int} (h : 0 ≤ n) : Txt.mul (T1 x) n = tS (List.replicate n.toNat x) := by
  obtain ⟨k, rfl⟩ := Int.eq_ofNat_of_zero_le h
  unfold Txt.mul
  by_cases h1 : (k : Int) < 1
  · have e : k = 0 := by omega
    subst e
    rfl
  · rw [if_neg h1]
    by_cases h2 : k = 1
    · subst h2; rfl
    · have : ((k : Int) == 1 || (T1 x).length == 0) = false := by
        rw [Bool.or_eq_false_iff]
        exact ⟨by simpa using (by omega : ¬ (k : Int) = 1), rfl⟩
      rw [this, if_neg (fun z => by cases z)]
      show (⟨(List.replicate (k : Int).toNat #[x]).foldl (· ++ ·) #[]⟩ : Str) = _
      rw [foldl_reps]
      rfl
abbrev N_law_strip : List Str := ["deck", "many", "one", "other", "k"]
theorem sc_law_strip : FnScope N_law_strip ["deck"] (defScope s_law_strip) := ⟨rfl, rfl, rfl, by decide +kernel, rfl, by decide +kernel, by decide +kernel⟩
def t_law_strip (c : Cn) : TS :=
  (tSeq (tAsg (tOp (bIx c.P c.w c.K) (tLst (tCons (tCall (sp_law_draw c) [] E0 (tCons (tVar 0) (tCons (tC (.int 9)) tNil))) (tCons (tC (.int 8)) tNil))) (tCall (sp_law_draw c) [] E0 (tCons (tVar 0) (tCons (tC (.int 2)) tNil)))) (gName 1))
  (tSeq (tIfS (tTest (tOp (cEq c.K) (tCall (sp_law_draw c) [] E0 (tCons (tVar 0) (tCons (tC (.int 3)) tNil))) (tC (.int 0))))
  (tSeq (tAsg (tCall (sp_law_draw c) [] E0 (tCons (tVar 0) (tCons (tOp (bAdd c.K) (tVar 1) (tC (.int 1))) tNil))) (gName 2))
  (tSeq (tAsg (tCall (sp_law_draw c) [] E0 (tCons (tVar 0) (tCons (tOp (bAdd c.K) (tOp bSub (tVar 1) (tVar 2)) (tC (.int 1))) tNil))) (gName 3))
  (tRet (tOp (bAdd c.K) (tOp (bAdd c.K) (tOp bMulS (tC (.str "L")) (tVar 2)) (tOp bMulS (tC (.str ".")) (tVar 3))) (tOp bMulS (tC (.str "R")) (tOp bSub (tOp bSub (tVar 1) (tVar 2)) (tVar 3)))))))
  tNext)
  (tRet (tBM c.K "str" (rJoin c.K) (tC (.str "")) (tCons (tLc (iRng1 (tCons (tVar 1) tNil)) (gName 4) tYes (tOp (bIx c.P c.w c.K) (tC (.str "LR..")) (tCall (sp_law_draw c) [] E0 (tCons (tVar 0) (tCons (tC (.int 4)) tNil)))) [4]) tNil)))))
def sp_law_strip (c : Cn) : Sp := fun vs H Q E => vs.length = 1 ∧ ∃ (d : Addr) (M : Addr → Prop), vs = [.ref d] ∧ DeckAt H d M ∧ ∀ (H' : Hp) (l : List Nat), Keep M H H' → DeckAt H' d M → OkS l → Q (.str (tS l)) H'
theorem sign4 {n : Int} (h0 : 0 ≤ n) (h1 : n < 4) : ∃ x : Nat, atI (("LR.." : Str).cps.toList) n = some x ∧ (x = 76 ∨ x = 82 ∨ x = 46) := by
  have : n = 0 ∨ n = 1 ∨ n = 2 ∨ n = 3 := by omega
  rcases this with rfl | rfl | rfl | rfl
  · exact ⟨76, rfl, .inl rfl⟩
  · exact ⟨82, rfl, .inr (.inl rfl)⟩
  · exact ⟨46, rfl, .inr (.inr rfl)⟩
  · exact ⟨46, rfl, .inr (.inr rfl)⟩
theorem p_law_strip {c : Cn} {mg : Str → Option Value} (T : Txt c mg) {vs : List V} {H : Hp} {Q : VK} {E : XK} (h : sp_law_strip c vs H Q E) : t_law_strip c { nx := fun _ H' => Q .non H', rt := Q } (start N_law_strip vs) H := by
  obtain ⟨_, d, M, rfl, D, k⟩ := h
  unfold t_law_strip
  repeat kaf_suf
  refine ⟨rfl, d, 9, M, rfl, by decide, by decide, D, fun H1 n k1 D1 n0 n1 => ?_⟩
  repeat kaf_suf
  intro p hp
  have D2 := D1.keep (Keep.alloc (o := .lst [.int n, .int 8]) hp) fun _ _ z => z
  have np := D1.new hp
  have k2 : Keep M H (upd H1 p (.lst [.int n, .int 8])) := k1.new hp
  have ep : (upd H1 p (.lst [.int n, .int 8])) p = some (.lst [.int n, .int 8]) := upd_same
  repeat kaf_suf
  generalize upd H1 p (.lst [.int n, .int 8]) = H2 at D2 k2 ep ⊢
  refine ⟨rfl, d, 2, M, rfl, by decide, by decide, D2, fun H3 w k3 D3 w0 w1 => ?_⟩
  have ep3 := k3 _ _ np ep
  have k13 := k2.trans k3
  obtain ⟨m, hm, hm8⟩ : ∃ m : Nat, atI [V.int n, V.int 8] w = some (V.int m) ∧ m ≤ 8 := by
    have : w = 0 ∨ w = 1 := by omega
    rcases this with rfl | rfl
    · exact ⟨n.toNat, by rw [Int.toNat_of_nonneg n0]; rfl, by omega⟩
    · exact ⟨8, rfl, by omega⟩
  clear k1 D1 hp D2 k2 ep k3 D
  repeat kaf_suf
  refine ⟨rfl, d, 3, M, rfl, by decide, by decide, D3, fun H4 u k4 D4 u0 u1 => ?_⟩
  have k14 := k13.trans k4
  clear k13 k4 D3 ep3
  repeat kaf_suf
  refine r_ite (fun e => ?_) (fun e => ?_)
  · repeat kaf_suf
    refine ⟨rfl, d, _, M, rfl, by omega, by omega, D4, fun H5 a k5 D5 a0 a1 => ?_⟩
    repeat kaf_suf
    refine ⟨rfl, d, _, M, rfl, by omega, by omega, D5, fun H6 b k6 D6 b0 b1 => ?_⟩
    have kk := (k14.trans k5).trans k6
    repeat kaf_suf
    refine v_mulS (mulOk_small (by decide) (by omega) (by omega)) ?_
    rw [show ("L" : Str) = T1 76 from rfl, mul_rep 76 (by omega)]
    repeat kaf_suf
    refine v_mulS (mulOk_small (by decide) (by omega) (by omega)) ?_
    rw [show ("." : Str) = T1 46 from rfl, mul_rep 46 (by omega)]
    repeat kaf_suf
    refine v_addS (by rw [tS_len, tS_len, List.length_replicate, List.length_replicate, sizeLine_eq]; omega) ?_
    rw [tS_app]
    repeat kaf_suf
    refine v_mulS (mulOk_small (by decide) (by omega) (by omega)) ?_
    rw [show ("R" : Str) = T1 82 from rfl, mul_rep 82 (by omega)]
    repeat kaf_suf
    refine v_addS (by rw [tS_len, tS_len, List.length_append, List.length_replicate, List.length_replicate, List.length_replicate, sizeLine_eq]; omega) ?_
    rw [tS_app]
    repeat kaf_suf
    refine k _ _ kk D6 ⟨?_, fun x hx => ?_⟩
    · rw [List.length_append, List.length_append, List.length_replicate, List.length_replicate, List.length_replicate]; omega
    · rcases List.mem_append.mp hx with hx | hx
      · rcases List.mem_append.mp hx with hx | hx
        · exact .inl (List.eq_of_mem_replicate hx)
        · exact .inr (.inr (List.eq_of_mem_replicate hx))
      · exact .inr (.inl (List.eq_of_mem_replicate hx))
  · repeat kaf_suf
    intro D0 hD0
    refine lc_range (lo := 0) (n := (m : Int).toNat) (fun i H' => ∃ l : List Nat, H' D0 = some (.lst (l.map fun c => V.str (T1 c))) ∧ l.length = i ∧ (∀ c ∈ l, c = 76 ∨ c = 82 ∨ c = 46) ∧ Keep M H4 H' ∧ DeckAt H' d M) ⟨[], upd_same, rfl, (fun c h => nomatch h), Keep.alloc hD0, D4.keep (Keep.alloc (M := Nil) hD0) fun _ _ z => z⟩ ?_ ?_
    · rintro i H5 hi ⟨l, e5, ll, ol, k5, D5⟩
      have nD : ¬ M D0 := D4.new hD0
      repeat kaf_suf
      refine ⟨rfl, ?_⟩
      repeat kaf_suf
      refine ⟨rfl, d, 4, M, rfl, by decide, by decide, D5, fun H6 a k6 D6 a0 a1 => ?_⟩
      have e6 := k6 _ _ nD e5
      obtain ⟨x, hx, ox⟩ := sign4 a0 a1
      refine v_ixS hx (by decide) ?_
      repeat kaf_suf
      have kD : Keep (fun y => y = D0) H6 (upd H6 D0 (.lst ((l.map fun c => V.str (T1 c)) ++ [.str (T1 x)]))) := Keep.refl.set rfl
      refine ⟨_, e6, few1 (by rw [List.length_map]; omega), l ++ [x], by rw [List.map_append]; exact upd_same, by rw [List.length_append]; show l.length + 1 = _; omega, fun c hc => ?_, (k5.trans k6).setN hD0, D6.keep kD fun y hy z => nD (z ▸ hy)⟩
      rcases List.mem_append.mp hc with hc | hc
      · exact ol c hc
      · rw [List.mem_singleton] at hc
        subst hc; exact ox
    · rintro H5 ⟨l, e5, ll, ol, k5, D5⟩
      refine v_joinL (ys := l.map T1) (by rw [List.map_map]; exact e5) (by rw [join_len]; omega) ?_
      rw [join_signs]
      exact k _ _ (k14.trans k5) D5 ⟨by omega, ol⟩
theorem cal_law_strip {c : Cn} {mg : Str → Option Value} {base : Heap} (T : Txt c mg) : Cal c.P c.w c.K mg base CX0 2 "_law_strip" (sp_law_strip c) := by
  obtain ⟨f, fd, F, g, b⟩ := T.F_law_strip
  exact ⟨f, fd, ["deck"], F.ok (k := 1) (N := N_law_strip) sc_law_strip (fun vs H Q E h => h.1) (fun cdv A outer s H vs Q E hr h => ⟨t_law_strip c, by
  exact (pss_cons (ps_set (i := 1) sc_law_strip.nd rfl (Or.inl rfl) (pe_ix (x_ix (hu64 hr)) (pe_lst (pa_cons (e_call (cal_law_draw T) hr (by decide) pass0 rfl (pa_cons (pv 0) (pa_cons pe_int pa_nil))) (pa_cons pe_int pa_nil))) (e_call (cal_law_draw T) hr (by decide) pass0 rfl (pa_cons (pv 0) (pa_cons pe_int pa_nil))) (fun _ _ => rfl)))
  (pss_cons (ps_if (pt_cmpR (o_eq (hu64 hr)) (e_call (cal_law_draw T) hr (by decide) pass0 rfl (pa_cons (pv 0) (pa_cons pe_int pa_nil))) pe_int (nomark _)) (pss_cons (ps_set (i := 2) sc_law_strip.nd rfl (Or.inl rfl) (e_call (cal_law_draw T) hr (by decide) pass0 rfl (pa_cons (pv 0) (pa_cons (pe_op o_add (pv 1) pe_int) pa_nil))))
  (pss_cons (ps_set (i := 3) sc_law_strip.nd rfl (Or.inl rfl) (e_call (cal_law_draw T) hr (by decide) pass0 rfl (pa_cons (pv 0) (pa_cons (pe_op o_add (pe_op o_sub (pv 1) (pv 2)) pe_int) pa_nil))))
  (pss_one (ps_ret (pe_op o_add (pe_op o_add (pe_op o_mulS pe_str (pv 2)) (pe_op o_mulS pe_str (pv 3))) (pe_op o_mulS pe_str (pe_op o_sub (pe_op o_sub (pv 1) (pv 2)) (pv 3)))))))) pss_nil)
  (pss_one (ps_ret (pe_bm PySem.F.plainAttrs_str PySem.F.slot_str_join PySem.F.type_str_join mt_join pe_str (pa_cons (pe_lc (own := [("k", 4)]) rfl sc_law_strip.nd (pi_range1 rfl T.n_range (pa_cons (pv 1) pa_nil)) (blkOk_by (own := [("k", 4)]) (N := N_law_strip) (sc := defScope s_law_strip) (by decide +kernel)) (fun _ _ _ _ _ => (pg_name (i := 4) sc_law_strip.nd rfl (Or.inl rfl))) (fun _ _ _ _ _ => pts_nil) (fun _ _ _ _ _ => (pe_ix (x_ix (hu64 hr)) pe_str (e_call (cal_law_draw T) hr (by decide) pass0 rfl (pa_cons (pv 0) (pa_cons pe_int pa_nil))) (fun _ _ => rfl)))) pa_nil)))))), p_law_strip T h⟩), g, F.kp, b⟩
abbrev N_law_are_few : List Str := ["strip", "known", "at", "one"]
theorem sc_law_are_few : FnScope N_law_are_few ["strip"] (defScope s_law_are_few) := ⟨rfl, rfl, rfl, by decide +kernel, rfl, by decide +kernel, by decide +kernel⟩
def t_law_are_few (c : Cn) : TS :=
  (tSeq (tAsg (tLst (tCons (tVar 0) tNil)) (gName 1))
  (tSeq (tAsg (tC (.int 0)) (gName 2))
  (tSeq (tWhile (tAnd (tTest (tOp (cLt c.K) (tVar 2) (tCB (kLen c.K) (tCons (tVar 1) tNil)))) (tTest (tOp (cLt c.K) (tCB (kLen c.K) (tCons (tVar 1) tNil)) (tC (.int 41)))))
  (tSeq (tFor (iAny c.K (tOp (bAdd c.K) (tCall (sp_law_lefts c) [] E0 (tCons (tOp (bIx c.P c.w c.K) (tVar 1) (tVar 2)) tNil)) (tCall (sp_law_rights c) [] E0 (tCons (tOp (bIx c.P c.w c.K) (tVar 1) (tVar 2)) tNil)))) (gName 3)
  (tIfS (tTest (tOp (cNotIn c.P c.w c.K) (tVar 3) (tVar 1)))
  (tDrop (tBM c.K "list" rAppend (tVar 1) (tCons (tVar 3) tNil)))
  tNext))
  (tAsg (tOp (bAdd c.K) (tVar 2) (tC (.int 1))) (gName 2))))
  (tRet (tOp (cLt c.K) (tCB (kLen c.K) (tCons (tVar 1) tNil)) (tC (.int 41)))))))
def sp_law_are_few (c : Cn) : Sp := fun vs H Q E => vs.length = 1 ∧ ∃ l : List Nat, vs = [.str (tS l)] ∧ OkS l ∧ ∀ (b : Bool) (H' : Hp), Keep Nil H H' → Q (.bl b) H'
theorem p_law_are_few {c : Cn} {mg : Str → Option Value} (T : Txt c mg) {vs : List V} {H : Hp} {Q : VK} {E : XK} (h : sp_law_are_few c vs H Q E) : t_law_are_few c { nx := fun _ H' => Q .non H', rt := Q } (start N_law_are_few vs) H := by
  obtain ⟨_, l, rfl, ok, k⟩ := h
  unfold t_law_are_few
  repeat kaf_suf
  intro q hq
  repeat kaf_suf
  refine ⟨fun m σ H' => ∃ (a : Nat) (x3 : Option V) (ks : List (List Nat)), σ = [some (.str (tS l)), some (.ref q), some (.int a), x3] ∧ Keep Nil H H' ∧ H' q = some (.lst (ks.map fun x => V.str (tS x))) ∧ (∀ x ∈ ks, OkS x) ∧ m = 100 - a ∧ a ≤ 41, ⟨_, 0, _, [l], rfl, Keep.alloc hq, upd_same, fun x hx => by rw [List.mem_singleton] at hx; exact hx ▸ ok, rfl, by omega⟩, ?_⟩
  rintro m σ H1 ⟨a, x3, ks, rfl, k1, e1, o1, rfl, a41⟩
  have ek : (ks.map fun x => V.str (tS x)).length = ks.length := List.length_map ..
  repeat kaf_suf
  rw [ek]
  refine r_ite (fun lt => ?_) (fun lt => ?_)
  · repeat kaf_suf
    rw [ek]
    refine r_ite (fun few => ?_) (fun few => ?_)
    · have hal : a < ks.length := by omega
      obtain ⟨x, hx⟩ : ∃ x, ks[a]? = some x := ⟨_, List.getElem?_eq_getElem hal⟩
      have hat : atI (ks.map fun x => V.str (tS x)) (a : Int) = some (.str (tS x)) := atI_get (n := a) (by rw [List.getElem?_map, hx]; rfl) rfl
      have ox := o1 x (List.mem_of_getElem? hx)
      refine ⟨fun σ H' => ∃ (x3 : Option V) (ks : List (List Nat)), σ = [some (.str (tS l)), some (.ref q), some (.int ((a + 1 : Nat) : Int)), x3] ∧ Keep Nil H H' ∧ H' q = some (.lst (ks.map fun x => V.str (tS x))) ∧ (∀ x ∈ ks, OkS x), ?_, ?_⟩
      · rintro σ' H' ⟨x3, ks', rfl, k', e', o'⟩
        exact ⟨100 - (a + 1), by omega, a + 1, x3, ks', rfl, k', e', o', rfl, by omega⟩
      · repeat kaf_suf
        refine ⟨rfl, x, rfl, ox.1, fun H2 p2 xs k2 hp2 ep2 xl hxs => ?_⟩
        have e2 := k2.get (fun z => z) e1
        repeat kaf_suf
        refine ⟨rfl, x, rfl, ox.1, fun H3 p3 ys k3 hp3 ep3 yl hys => ?_⟩
        have e3 := k3.get (fun z => z) e2
        have ep23 := k3.get (fun z => z) ep2
        repeat kaf_suf
        intro r hr
        have kr : Keep Nil H (upd H3 r (.lst ((xs.map fun x => V.str (tS x)) ++ (ys.map fun x => V.str (tS x))))) := ((k1.trans k2).trans k3).new hr
        have er : (upd H3 r (.lst ((xs.map fun x => V.str (tS x)) ++ (ys.map fun x => V.str (tS x))))) r = some (.lst ((xs ++ ys).map fun x => V.str (tS x))) := by rw [List.map_append]; exact upd_same
        have e4 := get_new (u := .lst ((xs.map fun x => V.str (tS x)) ++ (ys.map fun x => V.str (tS x)))) hr e3
        have nrq : r ≠ q := ne_new hr e3
        generalize upd H3 r (.lst ((xs.map fun x => V.str (tS x)) ++ (ys.map fun x => V.str (tS x)))) = H4 at kr er e4 ⊢
        clear k2 hp2 ep2 k3 hp3 ep3 ep23 e2 e3 hr
        repeat kaf_suf
        refine for_list (xs := (xs ++ ys).map fun x => V.str (tS x)) (fun j σ H' => ∃ (x3 : Option V) (ks : List (List Nat)), σ = [some (.str (tS l)), some (.ref q), some (.int a), x3] ∧ Keep Nil H H' ∧ H' q = some (.lst (ks.map fun x => V.str (tS x))) ∧ (∀ x ∈ ks, OkS x) ∧ ks.length ≤ 41 + j ∧ H' r = some (.lst ((xs ++ ys).map fun x => V.str (tS x)))) ⟨_, ks, rfl, kr, e4, o1, by omega, er⟩ ?_ ?_ ?_
        · rintro j σ H' _ ⟨_, _, _, _, _, _, _, e⟩
          exact SqL.of e
        · rintro j y σ H5 hj ⟨x3, ks, rfl, k5, e5, o5, l5, er5⟩
          rw [List.getElem?_map] at hj
          obtain ⟨y, hy, rfl⟩ := Option.map_eq_some_iff.mp hj
          have hjl := (List.getElem?_eq_some_iff.mp hy).1
          rw [List.length_append] at hjl
          have oy : OkS y := by
            rcases List.mem_append.mp (List.mem_of_getElem? hy) with h | h
            · exact ((hxs y).mp h).ok ox
            · exact ((hys y).mp h).ok ox
          repeat kaf_suf
          refine v_ninSl (os := ks.map tS) (by rw [List.map_map]; exact e5) ?_
          repeat kaf_suf
          refine r_iteN (fun nk => ?_) (fun nk => ?_)
          · repeat kaf_suf
            refine ⟨_, ks ++ [y], rfl, k5.setN hq, by rw [List.map_append]; exact upd_same, fun z hz => ?_, by rw [List.length_append]; show ks.length + 1 ≤ _; omega, get_set nrq er5⟩
            rcases List.mem_append.mp hz with hz | hz
            · exact o5 z hz
            · rw [List.mem_singleton] at hz
              exact hz ▸ oy
          · repeat kaf_suf
            exact ⟨_, ks, rfl, k5, e5, o5, by omega, er5⟩
        · rintro σ H5 ⟨x3, ks, rfl, k5, e5, o5, l5, er5⟩
          repeat kaf_suf
          exact ⟨_, ks, rfl, k5, e5, o5⟩
    · repeat kaf_suf
      rw [ek]
      repeat kaf_suf
      exact k _ _ k1
  · repeat kaf_suf
    rw [ek]
    repeat kaf_suf
    exact k _ _ k1
theorem cal_law_are_few {c : Cn} {mg : Str → Option Value} {base : Heap} (T : Txt c mg) : Cal c.P c.w c.K mg base CX0 2 "_law_are_few" (sp_law_are_few c) := by
  obtain ⟨f, fd, F, g, b⟩ := T.F_law_are_few
  exact ⟨f, fd, ["strip"], F.ok (k := 1) (N := N_law_are_few) sc_law_are_few (fun vs H Q E h => h.1) (fun cdv A outer s H vs Q E hr h => ⟨t_law_are_few c, by
  exact (pss_cons (ps_set (i := 1) sc_law_are_few.nd rfl (Or.inl rfl) (pe_lst (pa_cons (pv 0) pa_nil)))
  (pss_cons (ps_set (i := 2) sc_law_are_few.nd rfl (Or.inl rfl) pe_int)
  (pss_cons (ps_while PassesOwn.never (PW.pt (pw_and (pt_cmpR (o_lt (hu64 hr)) (pv 2) (pe_callB k_len (by rfl) T.n_len (by decide +kernel) (pa_cons (pv 1) pa_nil)) (nomark _)) (pw_and1 (pt_cmpR (o_lt (hu64 hr)) (pe_callB k_len (by rfl) T.n_len (by decide +kernel) (pa_cons (pv 1) pa_nil)) pe_int (nomark _)))))
  (pss_cons (ps_for PassesOwn.never rfl (pi_any (pe_op o_add (e_call (cal_law_lefts T) hr (by decide) pass0 rfl (pa_cons (pe_ix (x_ix (hu64 hr)) (pv 1) (pv 2) (fun _ _ => rfl)) pa_nil)) (e_call (cal_law_rights T) hr (by decide) pass0 rfl (pa_cons (pe_ix (x_ix (hu64 hr)) (pv 1) (pv 2) (fun _ _ => rfl)) pa_nil)))) (pg_name (i := 3) sc_law_are_few.nd rfl (Or.inl rfl))
  (pss_one (ps_if (pt_cmpR (o_notin (hu65 hr)) (pv 3) (pv 1) (by rfl)) (pss_one (ps_expr (pe_bm PySem.F.plainAttrs_list PySem.F.slot_list_append PySem.F.type_list_append mt_append (pv 1) (pa_cons (pv 3) pa_nil)))) pss_nil)))
  (pss_one (ps_set (i := 2) sc_law_are_few.nd rfl (Or.inl rfl) (pe_op o_add (pv 2) pe_int)))))
  (pss_one (ps_ret (pe_cmpR (o_lt (hu64 hr)) (pe_callB k_len (by rfl) T.n_len (by decide +kernel) (pa_cons (pv 1) pa_nil)) pe_int (nomark _))))))), p_law_are_few T h⟩), g, F.kp, b⟩

/-! a strip's game, its moves, its depth -/
def dTx (l : List (List Nat)) : PyData := .list (l.map fun x => PyData.str (tS x))
theorem dpTx {K : PySem.W.Frag} {H : Hp} {p : Addr} {l : List (List Nat)} (h : H p = some (.lst (l.map fun x => V.str (tS x)))) : Dp K H (.ref p) (dTx l) := by
  refine .lst (SqL.of h) ?_
  clear h
  induction l with
  | nil => exact .nil
  | cons a r ih => exact .cons (.str _) ih
theorem ok_strOk {l : List Nat} (o : OkS l) : (PyData.str (tS l)).canLay0 = true := by
  obtain ⟨o1, o2⟩ := o
  show (l.toArray).all (· < 0x110000) = true
  rw [List.all_toArray, List.all_eq_true]
  exact fun c hc => decide_eq_true (by rcases o2 c hc with rfl | rfl | rfl <;> decide)
theorem dTx_sh {l : List (List Nat)} (o : ∀ x ∈ l, OkS x) : SeqAt.shaped (dTx l) = true := by
  have h : PyData.canLayAll0 (l.map fun x => PyData.str (tS x)) = true ∧ PyData.depthAll (l.map fun x => PyData.str (tS x)) = 0 := by
    induction l with
    | nil => simp [PyData.canLayAll0, PyData.depthAll]
    | cons a r ih =>
      obtain ⟨h1, h2⟩ := ih fun x hx => o x (List.mem_cons_of_mem _ hx)
      have h3 := ok_strOk (o a List.mem_cons_self)
      constructor
      · simp only [List.map_cons, PyData.canLayAll0, h1, h3, Bool.and_self]
      · simp only [List.map_cons, PyData.depthAll, h2, PyData.depth, Nat.max_self]
  refine shaped_of ?_ ?_
  · unfold dTx; simp only [PyData.canLay0]; exact h.1
  · unfold dTx; simp only [PyData.depth, h.2]; decide
theorem eqv_dTx (l : List (List Nat)) : PyData.eqv (dTx l) (.list []) = decide (l = []) := by
  cases l <;> simp [dTx, PyData.eqv, PyData.eqvAll]
theorem SG.same {gs : List Gm} (o : GOk gs) {l : List Nat} {g : Nat} {gm : Gm} (sg : SG gs l g) (e : gs[g]? = some gm) {s : Bool} {ms : List Int} (m : MsS gs s l ms) (z : Int) : z ∈ gsd gm s ↔ z ∈ ms := by
  obtain ⟨hm, e', a, b⟩ := sg.inv
  rw [e] at e'
  cases e'
  constructor
  · intro hz
    obtain ⟨x, k, mv, rfl, h2⟩ := b s z hz
    obtain ⟨k', h3, h4⟩ := m.1 x mv
    rw [h2.uniq o h4]; exact h3
  · intro hz
    obtain ⟨x, k, mv, rfl, h2⟩ := m.2 z hz
    obtain ⟨k', h3, h4⟩ := a s x mv
    rw [← h4.uniq o h2]; exact h3
theorem SG.zero {gs : List Gm} (o : GOk gs) {l : List Nat} {g : Nat} (sg : SG gs l g) : g = 0 ↔ ∀ s x, ¬ Mv s l x := by
  obtain ⟨hm, e, a, b⟩ := sg.inv
  constructor
  · rintro rfl s x mv
    rw [o.zero] at e
    cases e
    obtain ⟨h, hh, _⟩ := a s x mv
    cases s <;> exact nomatch hh
  · intro n
    have n1 : ∀ s, gsd hm s = [] := fun s => List.eq_nil_iff_forall_not_mem.mpr fun z hz => by
      obtain ⟨x, _, mv, _⟩ := b s z hz
      exact n s x mv
    have : hm = ([], []) := Prod.ext (n1 true) (n1 false)
    subst this
    exact nodup_ix o e o.zero
theorem games_lc2 {c : Cn} {mg : Str → Option Value} (T : Txt c mg) {b p : Addr} {M : Addr → Prop} {gs : List Gm} {ds : List Int} {s : Bool} {l : List Nat} {xs : List (List Nat)} {x1 x2 x3 x4 x5 x6 : Option V} {H : Hp} {Q : VK}
    (B : BookAt c H b M gs ds) (I : InvS gs) (ok : OkS l) (ep : H p = some (.lst (xs.map fun x => V.str (tS x)))) (np : ¬ M p) (hx : ∀ x, x ∈ xs ↔ Mv s l x) (xl : xs.length ≤ 16)
    (k : ∀ (H' : Hp) (f : List Gm) (e : List Int) (q : Addr) (ms : List Int), Keep M H H' → BookAt c H' b M (gs ++ f) (ds ++ e) → InvS (gs ++ f) → H q = none → H' q = some (.lst (ms.map V.int)) → ms.length ≤ 16 → MsS (gs ++ f) s l ms → Q (.ref q) H') :
    kLc (Itl c.K p) (gName 5) tYes (tCall (sp_strip_game c) [] E0 (tCons (tVar 0) (tCons (tVar 5) tNil))) [5] [some (.ref b), x1, x2, x3, x4, x5, x6] H Q := by
  intro D hD
  have nD : ¬ M D := B.new hD
  refine lc_list (xs := xs.map fun x => V.str (tS x)) (fun j H' => ∃ (f : List Gm) (e : List Int) (ms : List Int), Keep M H H' ∧ BookAt c H' b M (gs ++ f) (ds ++ e) ∧ InvS (gs ++ f) ∧ H' D = some (.lst (ms.map V.int)) ∧ Paired (fun m x => ∃ g : Nat, m = (g : Int) ∧ SG (gs ++ f) x g) ms (xs.take j)) ⟨[], [], [], Keep.alloc hD, by rw [List.append_nil, List.append_nil]; exact B.same (Keep.alloc hD), by rw [List.append_nil]; exact I, upd_same, .nil⟩ ?_ ?_ ?_
  · rintro j H' _ ⟨_, _, _, k1, _⟩
    exact SqL.of (k1 _ _ np ep)
  · rintro j x H1 hj ⟨f, e, ms, k1, B1, I1, eD, pm⟩
    rw [List.getElem?_map] at hj
    obtain ⟨x, hjx, rfl⟩ := Option.map_eq_some_iff.mp hj
    have mv := (hx x).mp (List.mem_of_getElem? hjx)
    have pl := Paired.length pm
    have hjl := (List.getElem?_eq_some_iff.mp hjx).1
    rw [List.length_take] at pl
    repeat kaf_suf
    refine ⟨rfl, ?_⟩
    repeat kaf_suf
    refine ⟨rfl, b, M, _, _, x, rfl, B1, I1, mv.ok ok, fun H2 f2 e2 g2 k2 B2 I2 sg => ?_⟩
    have eD2 := k2 _ _ nD eD
    repeat kaf_suf
    have kD : Keep (fun y => y = D) H2 (upd H2 D (.lst (ms.map V.int ++ [.int g2]))) := Keep.refl.set rfl
    refine ⟨ms.map V.int, eD2, few1 (by rw [List.length_map]; omega), f ++ f2, e ++ e2, ms ++ [(g2 : Int)], (k1.trans k2).setN hD, ?_, ?_, by rw [List.map_append]; exact upd_same, ?_⟩
    · rw [← List.append_assoc, ← List.append_assoc]
      exact B2.keep kD (fun x z => by cases z; exact ⟨_, eD2⟩) fun x m z => nD (z ▸ m)
    · rw [← List.append_assoc]; exact I2
    · rw [List.take_succ, hjx, ← List.append_assoc]
      exact Paired.snoc (paired_keep pm fun m x ⟨g, e, h⟩ => ⟨g, e, h.more⟩) ⟨g2, rfl, sg⟩
  · rintro H' ⟨f, e, ms, k1, B1, I1, eD, pm⟩
    rw [List.take_of_length_le (by rw [List.length_map]; exact Nat.le_refl _)] at pm
    refine k _ f e D ms k1 B1 I1 hD eD (by rw [Paired.length pm]; exact xl) ⟨fun x mv => ?_, fun z hz => ?_⟩
    · obtain ⟨i, hi, ei⟩ := List.getElem_of_mem ((hx x).mpr mv)
      obtain ⟨m, hm, g, rfl, sg⟩ := paired_get pm (show xs[i]? = some x by rw [List.getElem?_eq_getElem hi, ei])
      exact ⟨g, List.mem_of_getElem? hm, sg⟩
    · obtain ⟨i, hi, ei⟩ := List.getElem_of_mem hz
      obtain ⟨x, hx', g, rfl, sg⟩ := paired_get' pm (show ms[i]? = some z by rw [List.getElem?_eq_getElem hi, ei])
      exact ⟨x, g, (hx x).mp (List.mem_of_getElem? hx'), rfl, sg⟩
theorem depth_of {gs : List Gm} {ds : List Int} (o : GOk gs) (d : DOk gs ds) {x : Nat} {ms : List Int} {g : Gm} {e : Int} (hg : gs[x]? = some g) (he : ds[x]? = some e) (h : ∀ z, z ∈ g.1 ++ g.2 ↔ z ∈ ms) {m : Int}
    (hm : m ∈ 0 :: (dps ds ms).map fun x => 1 + x) (hmax : ∀ y, y ∈ 0 :: ((dps ds ms).map fun x => 1 + x) → y ≤ m) : e = m := by
  obtain ⟨d1, d2, d3⟩ := d.at_ x g e hg he
  have p0 := DOk.pos o d (x + 1) x (by omega) e he
  have hd : ∀ z, z ∈ dps ds (g.1 ++ g.2) ↔ z ∈ dps ds ms := fun z => by
    unfold dps
    rw [List.mem_map, List.mem_map]
    exact ⟨fun ⟨a, ha, hb⟩ => ⟨a, (h a).mp ha, hb⟩, fun ⟨a, ha, hb⟩ => ⟨a, (h a).mpr ha, hb⟩⟩
  have h1 : m ≤ e := by
    rcases List.mem_cons.mp hm with h | h
    · omega
    · obtain ⟨x, hx, rfl⟩ := List.mem_map.mp h
      have := d2 x ((hd x).mpr hx); omega
  have h2 : e ≤ m := by
    by_cases z : g.1 ++ g.2 = []
    · have := d1 z
      have := hmax 0 List.mem_cons_self
      omega
    · obtain ⟨x, hx, ex⟩ := d3 z
      have := hmax (1 + x) (List.mem_cons_of_mem _ (List.mem_map.mpr ⟨x, (hd x).mp hx, rfl⟩))
      omega
  omega
theorem v_eqB {K : PySem.W.Frag} {H : Hp} {Q : VK} {a b : Bool} (k : Q (.bl (decide (a = b))) H) : cEq K (.bl a) (.bl b) H Q := .inl ⟨rfl, by
  have e : decide (V.bl a = V.bl b) = decide (a = b) := by
    by_cases h : a = b
    · subst h; simp
    · rw [decide_eq_false h, decide_eq_false (fun z => h (V.bl.inj z))]
  rw [e]; exact k⟩
abbrev N_law_right : List Str := ["book", "strip", "found", "behind", "moves", "one", "move"]
theorem sc_law_right : FnScope N_law_right ["book", "strip"] (defScope s_law_right) := ⟨rfl, rfl, rfl, by decide +kernel, rfl, by decide +kernel, by decide +kernel⟩
def t_law_right (c : Cn) : TS :=
  (tSeq (tAsg (tCall (sp_strip_game c) [] E0 (tCons (tVar 0) (tCons (tVar 1) tNil))) (gName 2))
  (tSeq (tIfS (tOr (tNot (tTru c.K (tCB (rIsi c.K) (tCons (tVar 2) (tCons (tC (.ty "int")) tNil))))) (tOr (tTru c.K (tCB (rIsi c.K) (tCons (tVar 2) (tCons (tC (.ty "bool")) tNil)))) (tTest (tOp cIsNot (tCall (sp_is_strip c) [] E0 (tCons (tVar 1) tNil)) (tC (.bl true))))))
  (tRet (tC (.bl false)))
  tNext)
  (tSeq (tIfS (tTest (tOp (cNe c.K) (tMeth c.cBook "lefts" (sp_Book_lefts c) [] E0 (tVar 0) (tCons (tVar 2) tNil)) (tCB (kSorted c.K c.w) (tCons (tCB (uSetI c.K c.w) (tCons (tLc (iAny c.K (tCall (sp_law_lefts c) [] E0 (tCons (tVar 1) tNil))) (gName 5) tYes (tCall (sp_strip_game c) [] E0 (tCons (tVar 0) (tCons (tVar 5) tNil))) [5]) tNil)) tNil))))
  (tRet (tC (.bl false)))
  tNext)
  (tSeq (tIfS (tTest (tOp (cNe c.K) (tMeth c.cBook "rights" (sp_Book_rights c) [] E0 (tVar 0) (tCons (tVar 2) tNil)) (tCB (kSorted c.K c.w) (tCons (tCB (uSetI c.K c.w) (tCons (tLc (iAny c.K (tCall (sp_law_rights c) [] E0 (tCons (tVar 1) tNil))) (gName 5) tYes (tCall (sp_strip_game c) [] E0 (tCons (tVar 0) (tCons (tVar 5) tNil))) [5]) tNil)) tNil))))
  (tRet (tC (.bl false)))
  tNext)
  (tSeq (tAsg (tOp (bAdd c.K) (tCall (sp_law_lefts c) [] E0 (tCons (tVar 1) tNil)) (tCall (sp_law_rights c) [] E0 (tCons (tVar 1) tNil))) (gName 3))
  (tSeq (tAsg (tOp (bAdd c.K) (tMeth c.cBook "lefts" (sp_Book_lefts c) [] E0 (tVar 0) (tCons (tVar 2) tNil)) (tMeth c.cBook "rights" (sp_Book_rights c) [] E0 (tVar 0) (tCons (tVar 2) tNil))) (gName 4))
  (tSeq (tIfS (tTest (tOp (cNe c.K) (tMeth c.cBook "depth" (sp_Book_depth c) [] E0 (tVar 0) (tCons (tVar 2) tNil)) (tCB (kMax c.K) (tCons (tOp (bAdd c.K) (tLst (tCons (tC (.int 0)) tNil)) (tLc (iAny c.K (tVar 4)) (gName 6) tYes (tOp (bAdd c.K) (tC (.int 1)) (tMeth c.cBook "depth" (sp_Book_depth c) [] E0 (tVar 0) (tCons (tVar 6) tNil))) [6])) tNil))))
  (tRet (tC (.bl false)))
  tNext)
  (tRet (tAndV (tOp (cEq c.K) (tCall (sp_strip_game c) [] E0 (tCons (tVar 0) (tCons (tVar 1) tNil))) (tVar 2)) (tOp (cEq c.K) (tOp (cEq c.K) (tVar 2) (tC (.int 0))) (tOp (cEq c.K) (tVar 3) (tLst tNil))))))))))))
def sp_law_right (c : Cn) : Sp := fun vs H Q E => vs.length = 2 ∧ ∃ (b : Addr) (M : Addr → Prop) (gs : List Gm) (ds : List Int) (l : List Nat), vs = [.ref b, .str (tS l)] ∧ BookAt c H b M gs ds ∧ InvS gs ∧ OkS l ∧
  ∀ (H' : Hp) (f : List Gm) (e : List Int), Keep M H H' → BookAt c H' b M (gs ++ f) (ds ++ e) → InvS (gs ++ f) → Q (.bl true) H'
theorem p_law_right {c : Cn} {mg : Str → Option Value} (T : Txt c mg) {vs : List V} {H : Hp} {Q : VK} {E : XK} (h : sp_law_right c vs H Q E) : t_law_right c { nx := fun _ H' => Q .non H', rt := Q } (start N_law_right vs) H := by
  obtain ⟨_, b, M, gs, ds, l, rfl, B, I, ok, k⟩ := h
  unfold t_law_right
  repeat kaf_suf
  refine ⟨rfl, b, M, gs, ds, l, rfl, B, I, ok, fun H1 f1 e1 g k1 B1 I1 sg1 => ?_⟩
  repeat kaf_suf
  refine ⟨rfl, l, rfl, ok, fun H2 k2 => ?_⟩
  have B2 := B1.same k2
  have k12 := k1.trans k2.weak
  clear k1 k2 B1 B
  repeat kaf_suf
  have hgl := sg1.lt
  obtain ⟨gm, hgm⟩ : ∃ gm, (gs ++ f1)[g]? = some gm := ⟨_, List.getElem?_eq_getElem hgl⟩
  have few1' := I1.few
  obtain ⟨bx2, bm2, bn2, bd2, hb2⟩ := B2.ins_
  repeat kaf_suf
  refine ⟨rfl, b, M, _, _, g, gm, rfl, B2, hgm, fun p hp => ?_⟩
  have kp : Keep Nil H2 (upd H2 p (.lst (gm.1.map V.int))) := Keep.alloc hp
  have ep : (upd H2 p (.lst (gm.1.map V.int))) p = some (.lst (gm.1.map V.int)) := upd_same
  generalize upd H2 p (.lst (gm.1.map V.int)) = H3 at kp ep ⊢
  repeat kaf_suf
  refine ⟨rfl, l, rfl, ok.1, fun H4 q4 xs k4 hq4 eq4 xl hxs => ?_⟩
  have B4 := B2.same (kp.trans k4)
  have k14 := (k12.trans kp.weak).trans k4.weak
  have ep4 := k4.get (fun z => z) ep
  have np : ¬ M p := B2.new hp
  have nq4 : ¬ M q4 := (B2.same kp).new hq4
  clear k12 kp k4 ep hp hq4 B2 hb2
  repeat kaf_suf
  refine games_lc2 T (s := true) (l := l) B4 I1 ok eq4 nq4 hxs xl fun H5 f5 e5 q5 ms5 k5 B5 I5 hq5 eq5 m5 M5 => ?_
  have ep5 := k5 _ _ np ep4
  have k15 := k14.trans k5
  have sg5 : SG (gs ++ f1 ++ f5) l g := sg1.more
  have hgm5 : (gs ++ f1 ++ f5)[g]? = some gm := by rw [List.getElem?_append_left hgl]; exact hgm
  clear k14 k5 eq4 nq4 ep4 B4
  repeat kaf_suf
  intro p6 c6 hp6 cl6
  repeat kaf_suf
  intro ns6 r6 u6 m6 l6 hr6
  repeat kaf_suf
  have o5 := B5.ok
  have e6 : gm.1 = ns6 := up_eq (o5.up gm (List.mem_of_getElem? hgm5)).1 u6 fun z => by
    rw [m6, decide_eq_true_iff]
    exact sg5.same o5 hgm5 (s := true) M5 z
  subst e6
  have g1l : gm.1.length ≤ 16 := by omega
  refine v_neD (dp_ints (l := gm.1) (by kaf_pre)) (dp_ints upd_same) (dInts_sh _) (dInts_sh _) ?_
  rw [eqv_dInts, decide_eq_true rfl]
  refine r_kB (r_ite_nt ?_)
  have k6 : Keep Nil H5 (upd (upd H5 p6 (SetO c.w p6 (fun j => decide (j ∈ ms5)) c6)) r6 (.lst (gm.1.map V.int))) := (Keep.alloc hp6).new hr6
  refine r_nx (absS (S := fun HT => Keep Nil H5 HT) k6 fun H6 k6 => ?_)
  have B6 := B5.same k6
  have k16 := k15.trans k6.weak
  clear hp6 hr6 hq5 eq5 np ep5 u6 m6 l6 cl6 k15 k6 B5 m5 hxs xl M5
  obtain ⟨bx6, bm6, bn6, bd6, hb6⟩ := B6.ins_
  repeat kaf_suf
  refine ⟨rfl, b, M, _, _, g, gm, rfl, B6, hgm5, fun p hp => ?_⟩
  have kp : Keep Nil H6 (upd H6 p (.lst (gm.2.map V.int))) := Keep.alloc hp
  have ep : (upd H6 p (.lst (gm.2.map V.int))) p = some (.lst (gm.2.map V.int)) := upd_same
  generalize upd H6 p (.lst (gm.2.map V.int)) = H7 at kp ep ⊢
  repeat kaf_suf
  refine ⟨rfl, l, rfl, ok.1, fun H8 q8 ys k8 hq8 eq8 yl hys => ?_⟩
  have B8 := B6.same (kp.trans k8)
  have k18 := (k16.trans kp.weak).trans k8.weak
  have ep8 := k8.get (fun z => z) ep
  have np : ¬ M p := B6.new hp
  have nq8 : ¬ M q8 := (B6.same kp).new hq8
  clear k16 kp k8 ep hp hq8 B6 hb6
  repeat kaf_suf
  refine games_lc2 T (s := false) (l := l) B8 I5 ok eq8 nq8 hys yl fun H9 f9 e9 q9 ms9 k9 B9 I9 hq9 eq9 m9 M9 => ?_
  have ep9 := k9 _ _ np ep8
  have k19 := k18.trans k9
  have sg9 : SG (gs ++ f1 ++ f5 ++ f9) l g := sg5.more
  have hgm9 : (gs ++ f1 ++ f5 ++ f9)[g]? = some gm := by rw [List.getElem?_append_left (List.getElem?_eq_some_iff.mp hgm5).1]; exact hgm5
  clear k18 k9 eq8 nq8 ep8 B8
  repeat kaf_suf
  intro p10 c10 hp10 cl10
  repeat kaf_suf
  intro ns10 r10 u10 m10 l10 hr10
  repeat kaf_suf
  have o9 := B9.ok
  have e10 : gm.2 = ns10 := up_eq (o9.up gm (List.mem_of_getElem? hgm9)).2 u10 fun z => by
    rw [m10, decide_eq_true_iff]
    exact sg9.same o9 hgm9 (s := false) M9 z
  subst e10
  have g2l : gm.2.length ≤ 16 := by omega
  refine v_neD (dp_ints (l := gm.2) (by kaf_pre)) (dp_ints upd_same) (dInts_sh _) (dInts_sh _) ?_
  rw [eqv_dInts, decide_eq_true rfl]
  refine r_kB (r_ite_nt ?_)
  have k10 : Keep Nil H9 (upd (upd H9 p10 (SetO c.w p10 (fun j => decide (j ∈ ms9)) c10)) r10 (.lst (gm.2.map V.int))) := (Keep.alloc hp10).new hr10
  refine r_nx (absS (S := fun HT => Keep Nil H9 HT) k10 fun H10 k10 => ?_)
  have B10 := B9.same k10
  have k1A := k19.trans k10.weak
  clear hp10 hr10 hq9 eq9 np ep9 u10 m10 l10 cl10 k19 k10 B9 m9 hys yl M9
  generalize hGS : gs ++ f1 ++ f5 ++ f9 = GS at *
  generalize hDS : ds ++ e1 ++ e5 ++ e9 = DS at *
  repeat kaf_suf
  refine ⟨rfl, l, rfl, ok.1, fun H11 q11 xs k11 hq11 eq11 xl hxs => ?_⟩
  repeat kaf_suf
  refine ⟨rfl, l, rfl, ok.1, fun H12 q12 ys k12 hq12 eq12 yl hys => ?_⟩
  have eq11' := k12.get (fun z => z) eq11
  repeat kaf_suf
  intro r13 hr13
  have kr : Keep Nil H10 (upd H12 r13 (.lst ((xs.map fun x => V.str (tS x)) ++ (ys.map fun x => V.str (tS x))))) := (k11.trans k12).new hr13
  have er : (upd H12 r13 (.lst ((xs.map fun x => V.str (tS x)) ++ (ys.map fun x => V.str (tS x))))) r13 = some (.lst ((xs ++ ys).map fun x => V.str (tS x))) := by rw [List.map_append]; exact upd_same
  have n13 : H10 r13 = none := keep_none (k11.trans k12) hr13
  generalize upd H12 r13 (.lst ((xs.map fun x => V.str (tS x)) ++ (ys.map fun x => V.str (tS x)))) = H13 at kr er ⊢
  have B13 := B10.same kr
  have nr13 : ¬ M r13 := B10.new n13
  have k1D := k1A.trans kr.weak
  clear k11 hq11 eq11 k12 hq12 eq12 eq11' hr13 kr B10 k1A n13
  obtain ⟨bx13, bm13, bn13, bd13, hb13⟩ := B13.ins_
  repeat kaf_suf
  refine ⟨rfl, b, M, _, _, g, gm, rfl, B13, hgm9, fun p1 hp1 => ?_⟩
  have kp1 : Keep Nil H13 (upd H13 p1 (.lst (gm.1.map V.int))) := Keep.alloc hp1
  have ep1 : (upd H13 p1 (.lst (gm.1.map V.int))) p1 = some (.lst (gm.1.map V.int)) := upd_same
  generalize upd H13 p1 (.lst (gm.1.map V.int)) = H14 at kp1 ep1 ⊢
  have hb14 := kp1.get (fun z => z) hb13
  repeat kaf_suf
  refine ⟨rfl, b, M, _, _, g, gm, rfl, B13.same kp1, hgm9, fun p2 hp2 => ?_⟩
  have kp2 : Keep Nil H13 (upd H14 p2 (.lst (gm.2.map V.int))) := kp1.new hp2
  have ep1' : (upd H14 p2 (.lst (gm.2.map V.int))) p1 = some (.lst (gm.1.map V.int)) := get_new hp2 ep1
  have ep2 : (upd H14 p2 (.lst (gm.2.map V.int))) p2 = some (.lst (gm.2.map V.int)) := upd_same
  generalize upd H14 p2 (.lst (gm.2.map V.int)) = H15 at kp2 ep1' ep2 ⊢
  clear kp1 hp1 hp2 ep1 hb14
  repeat kaf_suf
  intro y hy
  have ky : Keep Nil H13 (upd H15 y (.lst (gm.1.map V.int ++ gm.2.map V.int))) := kp2.new hy
  have ey : (upd H15 y (.lst (gm.1.map V.int ++ gm.2.map V.int))) y = some (.lst ((gm.1 ++ gm.2).map V.int)) := by rw [List.map_append]; exact upd_same
  generalize upd H15 y (.lst (gm.1.map V.int ++ gm.2.map V.int)) = H16 at ky ey ⊢
  clear kp2 ep1' ep2 hy
  have B16 := B13.same ky
  have er16 := ky.get (fun z => z) er
  have hb16 := ky.get (fun z => z) hb13
  have k1G := k1D.trans ky.weak
  clear ky er hb13 B13 k1D
  obtain ⟨dd, hdd⟩ : ∃ dd, DS[g]? = some dd := ⟨_, List.getElem?_eq_getElem (by have := B16.dok.len; have := (List.getElem?_eq_some_iff.mp hgm9).1; omega)⟩
  repeat kaf_suf
  refine ⟨rfl, b, M, _, _, g, dd, rfl, B16, hdd, ?_⟩
  repeat kaf_suf
  intro z hz
  repeat kaf_suf
  intro D9 hD9
  have kz : Keep Nil H16 (upd H16 z (.lst [.int 0])) := Keep.alloc hz
  have hzz : (upd H16 z (.lst [.int 0])) z = some (.lst [.int 0]) := upd_same
  have hyy := kz.get (fun z => z) ey
  generalize upd H16 z (.lst [.int 0]) = H17 at hD9 hzz hyy kz ⊢
  have hlen : ((dps DS (gm.1 ++ gm.2)).map fun x => 1 + x).length = (gm.1 ++ gm.2).length := by simp [dps]
  clear hz
  refine lc_list (xs := (gm.1 ++ gm.2).map V.int) (fun j H3 => H3 D9 = some (.lst ((((dps DS (gm.1 ++ gm.2)).map fun x => 1 + x).take j).map V.int)) ∧ Keep Nil H17 H3) ⟨upd_same, Keep.alloc hD9⟩ ?_ ?_ ?_
  · rintro j H3 _ ⟨_, k3⟩; exact SqL.of (k3.get (fun z => z) hyy)
  · rintro j x H3 hj ⟨w3, k3⟩
    rw [List.getElem?_map] at hj
    obtain ⟨m, hm, rfl⟩ := Option.map_eq_some_iff.mp hj
    have low := B16.ok.low g _ hgm9 m (List.mem_of_getElem? hm)
    have hm' := (List.getElem?_eq_some_iff.mp hm).1
    rw [List.length_append] at hm'
    obtain ⟨mn, rfl⟩ := Int.eq_ofNat_of_zero_le low.1
    have hdl := B16.dok.len
    have hgl9 := (List.getElem?_eq_some_iff.mp hgm9).1
    have hml : mn < DS.length := by omega
    have hb3 := (kz.trans k3).get (fun z => z) hb16
    repeat kaf_suf
    refine ⟨rfl, ?_⟩
    repeat kaf_suf
    refine ⟨rfl, b, M, _, _, mn, DS[mn], rfl, B16.same (kz.trans k3), List.getElem?_eq_getElem hml, ?_⟩
    repeat kaf_suf
    refine ⟨_, w3, few1 (by simp only [List.length_map, List.length_take]; omega), ?_, k3.setN hD9⟩
    rw [upd_same]
    have ee : ((dps DS (gm.1 ++ gm.2)).map fun x => 1 + x)[j]? = some (1 + DS[mn]) := by
      rw [List.getElem?_map, dps, List.getElem?_map, hm]; simp [hml]
    rw [List.take_succ, ee]; simp
  rintro H3 ⟨w3, k3⟩
  have w4 : H3 D9 = some (.lst (((dps DS (gm.1 ++ gm.2)).map fun x => 1 + x).map V.int)) := by
    rw [w3, List.take_of_length_le (by rw [hlen, List.length_map]; exact Nat.le_refl _)]
  have hz3 := k3.get (fun z => z) hzz
  have gl12 : (gm.1 ++ gm.2).length ≤ 32 := by rw [List.length_append]; omega
  refine v_addL hz3 w4 (few2 (by simp [dps]; omega)) fun y2 hy2 => ?_
  repeat kaf_suf
  refine v_maxL (ns := 0 :: (dps DS (gm.1 ++ gm.2)).map fun x => 1 + x) upd_same (by simp) fun m hm hmax => ?_
  have em := depth_of B16.ok B16.dok hgm9 hdd (fun _ => Iff.rfl) hm hmax
  repeat kaf_suf
  have kF : Keep Nil H16 (upd H3 y2 (.lst ([V.int 0] ++ ((dps DS (gm.1 ++ gm.2)).map fun x => 1 + x).map V.int))) := (kz.trans k3).new hy2
  generalize upd H3 y2 (.lst ([V.int 0] ++ ((dps DS (gm.1 ++ gm.2)).map fun x => 1 + x).map V.int)) = HF at kF ⊢
  have BF := B16.same kF
  have erF := kF.get (fun z => z) er16
  have k1F := k1G.trans kF.weak
  refine ⟨rfl, b, M, _, _, l, rfl, BF, I9, ok, fun HX f20 e20 g2 kG BG IG sg2 => ?_⟩
  have eg : g2 = g := sg2.uniq BG.ok sg9.more
  subst eg
  have erG := kG _ _ nr13 erF
  repeat kaf_suf
  intro q hq
  have oX : ∀ x ∈ xs ++ ys, OkS x := fun x hx => by
    rcases List.mem_append.mp hx with h | h
    · exact ((hxs x).mp h).ok ok
    · exact ((hys x).mp h).ok ok
  refine v_eqD (d := dTx (xs ++ ys)) (e := .list []) (dpTx (get_new hq erG)) (.lst (SqL.of upd_same) .nil) (dTx_sh oX) (dInts_sh []) ?_
  rw [eqv_dTx]
  refine v_eqB ?_
  have ez : decide (((g2 : Nat) : Int) = 0) = decide (xs ++ ys = []) := by
    have := sg2.zero BG.ok
    rw [decide_eq_decide]
    constructor
    · intro h
      have h := this.mp (by omega)
      refine List.eq_nil_iff_forall_not_mem.mpr fun x hx => ?_
      rcases List.mem_append.mp hx with hx | hx
      · exact h true x ((hxs x).mp hx)
      · exact h false x ((hys x).mp hx)
    · intro h
      have := this.mpr fun s x mv => by
        have : x ∈ xs ++ ys := by
          cases s
          · exact List.mem_append.mpr (.inr ((hys x).mpr mv))
          · exact List.mem_append.mpr (.inl ((hxs x).mpr mv))
        rw [h] at this
        exact nomatch this
      omega
  rw [decide_eq_true ez]
  subst hGS hDS
  have q1 : gs ++ (f1 ++ f5 ++ f9 ++ f20) = gs ++ f1 ++ f5 ++ f9 ++ f20 := by simp
  have q2 : ds ++ (e1 ++ e5 ++ e9 ++ e20) = ds ++ e1 ++ e5 ++ e9 ++ e20 := by simp
  exact k _ (f1 ++ f5 ++ f9 ++ f20) (e1 ++ e5 ++ e9 ++ e20) ((k1F.trans kG).new hq) (by rw [q1, q2]; exact BG.same (Keep.alloc hq)) (by rw [q1]; exact IG)
theorem cal_law_right {c : Cn} {mg : Str → Option Value} {base : Heap} (T : Txt c mg) : Cal c.P c.w c.K mg base CX0 78 "_law_right" (sp_law_right c) := by
  obtain ⟨f, fd, F, g, b⟩ := T.F_law_right
  exact ⟨f, fd, ["book", "strip"], F.ok (k := 77) (N := N_law_right) sc_law_right (fun vs H Q E h => h.1) (fun cdv A outer s H vs Q E hr h => ⟨t_law_right c, by
  exact (pss_cons (ps_set (i := 2) sc_law_right.nd rfl (Or.inl rfl) (e_call (cal_strip_game T) hr (by decide) pass0 rfl (pa_cons (pv 0) (pa_cons (pv 1) pa_nil))))
  (pss_cons (ps_if (PW.pt (pw_or (pt_not (p_tru (pe_callB k_isi (by rfl) T.n_isinstance (by decide +kernel) (pa_cons (pv 2) (pa_cons (pe_bltn rfl T.n_int (by decide +kernel) rfl) pa_nil))))) (pw_or (p_tru (pe_callB k_isi (by rfl) T.n_isinstance (by decide +kernel) (pa_cons (pv 2) (pa_cons (pe_bltn rfl T.n_bool (by decide +kernel) rfl) pa_nil)))) (pw_or1 (pt_cmpR o_isnot (e_call (cal_is_strip T) hr (by decide) pass0 rfl (pa_cons (pv 1) pa_nil)) pe_bl (nomark _)))))) (pss_one (ps_ret pe_bl)) pss_nil)
  (pss_cons (ps_if (pt_cmpR (o_ne (hu64 hr)) (e_meth (met_Book_lefts T) hr (by decide) pass0 (pv 0) (pa_cons (pv 2) pa_nil)) (pe_callB (k_sorted rfl) (by rfl) T.n_sorted (by decide +kernel) (pa_cons (pe_callTy (k_set rfl) (by rfl) T.n_set (by decide +kernel) (pa_cons (pe_lc (own := [("one", 5)]) rfl sc_law_right.nd (pi_any (e_call (cal_law_lefts T) hr (by decide) pass0 rfl (pa_cons (pv 1) pa_nil))) (blkOk_by (own := [("one", 5)]) (N := N_law_right) (sc := defScope s_law_right) (by decide +kernel)) (fun _ _ _ _ _ => (pg_name (i := 5) sc_law_right.nd rfl (Or.inl rfl))) (fun _ _ _ _ _ => pts_nil) (fun _ _ _ _ _ => (e_call (cal_strip_game T) hr (by decide) pass0 rfl (pa_cons (pv 0) (pa_cons (pv 5) pa_nil))))) pa_nil)) pa_nil)) (nomark _)) (pss_one (ps_ret pe_bl)) pss_nil)
  (pss_cons (ps_if (pt_cmpR (o_ne (hu64 hr)) (e_meth (met_Book_rights T) hr (by decide) pass0 (pv 0) (pa_cons (pv 2) pa_nil)) (pe_callB (k_sorted rfl) (by rfl) T.n_sorted (by decide +kernel) (pa_cons (pe_callTy (k_set rfl) (by rfl) T.n_set (by decide +kernel) (pa_cons (pe_lc (own := [("one", 5)]) rfl sc_law_right.nd (pi_any (e_call (cal_law_rights T) hr (by decide) pass0 rfl (pa_cons (pv 1) pa_nil))) (blkOk_by (own := [("one", 5)]) (N := N_law_right) (sc := defScope s_law_right) (by decide +kernel)) (fun _ _ _ _ _ => (pg_name (i := 5) sc_law_right.nd rfl (Or.inl rfl))) (fun _ _ _ _ _ => pts_nil) (fun _ _ _ _ _ => (e_call (cal_strip_game T) hr (by decide) pass0 rfl (pa_cons (pv 0) (pa_cons (pv 5) pa_nil))))) pa_nil)) pa_nil)) (nomark _)) (pss_one (ps_ret pe_bl)) pss_nil)
  (pss_cons (ps_set (i := 3) sc_law_right.nd rfl (Or.inl rfl) (pe_op o_add (e_call (cal_law_lefts T) hr (by decide) pass0 rfl (pa_cons (pv 1) pa_nil)) (e_call (cal_law_rights T) hr (by decide) pass0 rfl (pa_cons (pv 1) pa_nil))))
  (pss_cons (ps_set (i := 4) sc_law_right.nd rfl (Or.inl rfl) (pe_op o_add (e_meth (met_Book_lefts T) hr (by decide) pass0 (pv 0) (pa_cons (pv 2) pa_nil)) (e_meth (met_Book_rights T) hr (by decide) pass0 (pv 0) (pa_cons (pv 2) pa_nil))))
  (pss_cons (ps_if (pt_cmpR (o_ne (hu64 hr)) (e_meth (met_Book_depth T) hr (by decide) pass0 (pv 0) (pa_cons (pv 2) pa_nil)) (pe_callB (k_max rfl) (by rfl) T.n_max (by decide +kernel) (pa_cons (pe_op o_add (pe_lst (pa_cons pe_int pa_nil)) (pe_lc (own := [("move", 6)]) rfl sc_law_right.nd (pi_any (pv 4)) (blkOk_by (own := [("move", 6)]) (N := N_law_right) (sc := defScope s_law_right) (by decide +kernel)) (fun _ _ _ _ _ => (pg_name (i := 6) sc_law_right.nd rfl (Or.inl rfl))) (fun _ _ _ _ _ => pts_nil) (fun _ _ _ _ _ => (pe_op o_add pe_int (e_meth (met_Book_depth T) hr (by decide) pass0 (pv 0) (pa_cons (pv 6) pa_nil)))))) pa_nil)) (nomark _)) (pss_one (ps_ret pe_bl)) pss_nil)
  (pss_one (ps_ret (pe_and (pe_cmpR (o_eq (hu64 hr)) (e_call (cal_strip_game T) hr (by decide) pass0 rfl (pa_cons (pv 0) (pa_cons (pv 1) pa_nil))) (pv 2) (nomark _)) (pe_one (pe_cmpR (o_eq (hu64 hr)) (pe_cmpR (o_eq (hu64 hr)) (pv 2) pe_int (nomark _)) (pe_cmpR (o_eq (hu64 hr)) (pv 3) (pe_lst pa_nil) (nomark _)) (nomark _))))))))))))), p_law_right T h⟩), g, F.kp, b⟩

abbrev N_law : List Str := ["script", "deck", "book", "k", "strip", "turn", "behind"]
theorem sc_law : FnScope N_law ["script"] (defScope s_law) := ⟨rfl, rfl, rfl, by decide +kernel, rfl, by decide +kernel, by decide +kernel⟩
def t_law (c : Cn) : TS :=
  (tSeq (tAsg (tCall (sp_law_deck c) [] E0 (tCons (tVar 0) tNil)) (gName 1))
  (tSeq (tAsg (tMake c.cBook (sp_Book_init c) [] E0 tNil) (gName 2))
  (tSeq (tFor (iRng1 (tCons (tC (.int 3)) tNil)) (gName 3)
  (tSeq (tAsg (tCall (sp_law_strip c) [] E0 (tCons (tVar 1) tNil)) (gName 4))
  (C8.tCut (tIfS (tNot (tTru c.K (tCall (sp_law_are_few c) [] E0 (tCons (tVar 4) tNil))))
  (tAsg (tSl rSlS (tVar 4) tNoPart (tPart (tC (.int 6)))) (gName 4))
  tNext)
  (tFor (iRng1 (tCons (tC (.int 3)) tNil)) (gName 5)
  (tSeq (tIfS (tNot (tTru c.K (tCall (sp_law_right c) [] E0 (tCons (tVar 2) (tCons (tVar 4) tNil)))))
  (tRet (tC (.bl false)))
  tNext)
  (tSeq (tAsg (tOp (bAdd c.K) (tCall (sp_law_lefts c) [] E0 (tCons (tVar 4) tNil)) (tCall (sp_law_rights c) [] E0 (tCons (tVar 4) tNil))) (gName 6))
  (tIfS (tTest (tOp (cNe c.K) (tVar 6) (tLst tNil)))
  (tAsg (tOp (bIx c.P c.w c.K) (tVar 6) (tCall (sp_law_draw c) [] E0 (tCons (tVar 1) (tCons (tCB (kLen c.K) (tCons (tVar 6) tNil)) tNil)))) (gName 4))
  tNext)))))))
  (C8.tCut (tIfS (tTest (tOp (cEq c.K) (tCall (sp_law_draw c) [] E0 (tCons (tVar 1) (tCons (tC (.int 8)) tNil))) (tC (.int 0))))
  (tSeq (tAsg (tOp (bIx c.P c.w c.K) (tLst (tCons (tC (.str "LL....RR")) (tCons (tC (.str "L.L..R.R")) (tCons (tC (.str "LLL..RRR")) tNil)))) (tCall (sp_law_draw c) [] E0 (tCons (tVar 1) (tCons (tC (.int 3)) tNil)))) (gName 4))
  (tIfS (tNot (tTru c.K (tCall (sp_law_right c) [] E0 (tCons (tVar 2) (tCons (tVar 4) tNil)))))
  (tRet (tC (.bl false)))
  tNext))
  tNext)
  (tRet (tOp (cEq c.K) (tCall (sp_strip_game c) [] E0 (tCons (tMake c.cBook (sp_Book_init c) [] E0 tNil) (tCons (tC (.str "")) tNil))) (tC (.int 0))))))))
theorem DeckAt.cell {H : Hp} {d : Addr} {M : Addr → Prop} (D : DeckAt H d M) {x : Addr} (h : M x) : ∃ l, H x = some (.lst l) := by
  obtain ⟨pl, ps, i, h1, _, h2, _, _, _, _, h3, h4⟩ := D.ex
  rcases h4 x h with rfl | rfl | hx
  · exact ⟨_, h1⟩
  · exact ⟨_, h2⟩
  · obtain ⟨_, _, _, a, b, k, e⟩ := h3 x hx
    exact ⟨_, e⟩
theorem okPre {l : List Nat} (o : OkS l) (n : Nat) : OkS (l.take n) := ⟨Nat.le_trans (List.length_take_le' _ _) o.1, fun c hc => o.2 c (List.mem_of_mem_take hc)⟩
def sp_law_law (K : PySem.W.Frag) : Sp := fun vs H Q E => vs.length = 1 ∧ ∃ (a : Addr) (ns : List Int), vs = [.ref a] ∧ SqL K H a (ns.map V.int) ∧ ns.length ≤ 63 ∧ ∀ H', Q (.bl true) H'
theorem p_law {c : Cn} {mg : Str → Option Value} (T : Txt c mg) {vs : List V} {H : Hp} {Q : VK} {E : XK} (h : sp_law_law c.K vs H Q E) : t_law c { nx := fun _ H' => Q .non H', rt := Q } (start N_law vs) H := by
  obtain ⟨_, a, ns, rfl, hs, few, k⟩ := h
  unfold t_law
  repeat kaf_suf
  refine ⟨rfl, a, ns, rfl, hs, few, fun H1 d MD k1 D1 nD => ?_⟩
  repeat kaf_suf
  intro b dx hb hdx ndx
  repeat kaf_suf
  refine ⟨rfl, b, dx, rfl, upd_same, fun H2 MB k2 B2 nB => ⟨rfl, ?_⟩⟩
  have nbD : ∀ x, MB x → ¬ MD x := fun x h z => by
    have h0 := none_of_upd (none_of_upd (nB x h))
    exact D1.dom z h0
  have D2 : DeckAt H2 d MD := (D1.keep (Keep.new (Keep.alloc (o := .own b) hdx) (by rw [upd_ne (fun z => ndx z.symm)]; exact hb)) fun _ _ z => z).keep k2 fun x h z => D1.dom h (by rw [z]; exact hb)
  clear k1 D1 nD hb hdx ndx k2 nB
  have bB : ∀ {H : Hp} {gs : List Gm} {ds : List Int}, DeckAt H d MD → BookAt c H b MB gs ds → ∀ {H' : Hp}, Keep MD H H' → BookAt c H' b MB gs ds := fun D B _ k => B.keep k (fun _ h => D.cell h) nbD
  have dB : ∀ {H : Hp}, DeckAt H d MD → ∀ {H' : Hp}, Keep MB H H' → DeckAt H' d MD := fun D _ k => D.keep k fun x h z => nbD x z h
  have dS : ∀ {H : Hp}, DeckAt H d MD → ∀ {H' : Hp}, Keep Nil H H' → DeckAt H' d MD := fun D _ k => D.keep k fun x _ z => z
  have I2 : InvS [([], [])] := by unfold InvS; simp
  repeat kaf_suf
  refine for_range (lo := 0) (n := (3 : Int).toNat) (fun i σ H' => ∃ (x3 x4 x5 x6 : Option V) (gs : List Gm) (ds : List Int), σ = [some (.ref a), some (.ref d), some (.ref b), x3, x4, x5, x6] ∧ DeckAt H' d MD ∧ BookAt c H' b MB gs ds ∧ InvS gs) ⟨_, _, _, _, _, _, rfl, D2, B2, I2⟩ ?_ ?_
  · rintro i σ H3 hi ⟨x3, x4, x5, x6, gs, ds, rfl, D3, B3, I3⟩
    clear D2 B2 I2
    repeat kaf_suf
    refine ⟨rfl, d, MD, rfl, D3, fun H4 l k4 D4 ol => ?_⟩
    have B4 := bB D3 B3 k4
    clear D3 B3 k4
    repeat kaf_suf
    refine ⟨fun σ H' => ∃ (l : List Nat), σ = [some (.ref a), some (.ref d), some (.ref b), some (.int (0 + (i : Int))), some (.str (tS l)), x5, x6] ∧ OkS l ∧ DeckAt H' d MD ∧ BookAt c H' b MB gs ds, ?_, ?_⟩
    · repeat kaf_suf
      refine ⟨rfl, l, rfl, ol, fun f H5 k5 => ?_⟩
      have l8 := ol.1
      have lf : (tS l).length ≤ 100000 := by rw [tS_len]; omega
      cases f with
      | true =>
        repeat kaf_suf
        exact ⟨l, rfl, ol, dS D4 k5, B4.same k5⟩
      | false =>
        repeat kaf_suf
        refine v_slS lf ?_
        rw [show (6 : Int) = ((6 : Nat) : Int) from rfl, cut_pre]
        repeat kaf_suf
        exact ⟨l.take 6, rfl, okPre ol 6, dS D4 k5, B4.same k5⟩
    · rintro σ H5 ⟨l, rfl, ol, D5, B5⟩
      clear D4 B4
      repeat kaf_suf
      refine for_range (lo := 0) (n := (3 : Int).toNat) (fun j σ H' => ∃ (x5 x6 : Option V) (l : List Nat) (gs : List Gm) (ds : List Int), σ = [some (.ref a), some (.ref d), some (.ref b), some (.int (0 + (i : Int))), some (.str (tS l)), x5, x6] ∧ OkS l ∧ DeckAt H' d MD ∧ BookAt c H' b MB gs ds ∧ InvS gs) ⟨_, _, l, gs, ds, rfl, ol, D5, B5, I3⟩ ?_ ?_
      · rintro j σ H6 hj ⟨x5, x6, l, gs, ds, rfl, ol, D6, B6, I6⟩
        clear D5 B5 I3
        repeat kaf_suf
        refine ⟨rfl, b, MB, gs, ds, l, rfl, B6, I6, ol, fun H7 f e k7 B7 I7 => ?_⟩
        have D7 := dB D6 k7
        clear D6 B6 I6 k7
        repeat kaf_suf
        refine ⟨rfl, l, rfl, ol.1, fun H8 q8 xs k8 hq8 eq8 xl hxs => ?_⟩
        repeat kaf_suf
        refine ⟨rfl, l, rfl, ol.1, fun H9 q9 ys k9 hq9 eq9 yl hys => ?_⟩
        have eq8' := k9.get (fun z => z) eq8
        repeat kaf_suf
        intro r hr
        have kr : Keep Nil H7 (upd H9 r (.lst ((xs.map fun x => V.str (tS x)) ++ (ys.map fun x => V.str (tS x))))) := (k8.trans k9).new hr
        have er : (upd H9 r (.lst ((xs.map fun x => V.str (tS x)) ++ (ys.map fun x => V.str (tS x))))) r = some (.lst ((xs ++ ys).map fun x => V.str (tS x))) := by rw [List.map_append]; exact upd_same
        have n0 : H7 r = none := keep_none (k8.trans k9) hr
        generalize upd H9 r (.lst ((xs.map fun x => V.str (tS x)) ++ (ys.map fun x => V.str (tS x)))) = H10 at kr er ⊢
        have D10 := dS D7 kr
        have B10 := B7.same kr
        have nr := D7.new n0
        have oX : ∀ x ∈ xs ++ ys, OkS x := fun x hx => by
          rcases List.mem_append.mp hx with h | h
          · exact ((hxs x).mp h).ok ol
          · exact ((hys x).mp h).ok ol
        clear k8 hq8 eq8 k9 hq9 eq9 eq8' hr kr D7 B7 n0
        repeat kaf_suf
        intro p hp
        refine v_neD (d := dTx (xs ++ ys)) (e := .list []) (dpTx (get_new hp er)) (.lst (SqL.of upd_same) .nil) (dTx_sh oX) (dInts_sh []) ?_
        rw [eqv_dTx]
        have kp : Keep Nil H10 (upd H10 p (.lst [])) := Keep.alloc hp
        have er' := kp.get (fun z => z) er
        have D11 := dS D10 kp
        have B11 := B10.same kp
        generalize upd H10 p (.lst []) = H11 at kp er' D11 B11 ⊢
        clear hp kp er D10 B10
        have el : ((xs ++ ys).map fun x => V.str (tS x)).length = (xs ++ ys).length := List.length_map ..
        have ll : (xs ++ ys).length ≤ 32 := by rw [List.length_append]; omega
        refine r_kB (r_iteN (fun ne => ?_) (fun e => ?_))
        · have pos : 0 < (xs ++ ys).length := List.length_pos_iff.mpr ne
          repeat kaf_suf
          refine ⟨rfl, d, _, MD, rfl, by rw [el]; omega, by rw [el]; omega, D11, fun H12 n k12 D12 n0 n1 => ?_⟩
          rw [el] at n1
          have B12 := bB D11 B11 k12
          have er12 := k12 _ _ nr er'
          obtain ⟨n, rfl⟩ := Int.eq_ofNat_of_zero_le n0
          obtain ⟨x, hx⟩ : ∃ x, (xs ++ ys)[n]? = some x := ⟨_, List.getElem?_eq_getElem (by omega)⟩
          have hat : atI ((xs ++ ys).map fun x => V.str (tS x)) (n : Int) = some (.str (tS x)) := atI_get (n := n) (by rw [List.getElem?_map, hx]; rfl) rfl
          repeat kaf_suf
          exact ⟨_, _, x, _, _, rfl, oX x (List.mem_of_getElem? hx), D12, B12, I7⟩
        · repeat kaf_suf
          exact ⟨_, _, l, _, _, rfl, ol, D11, B11, I7⟩
      · rintro σ H6 ⟨x5, x6, l, gs, ds, rfl, ol, D6, B6, I6⟩
        repeat kaf_suf
        exact ⟨_, _, _, _, gs, ds, rfl, D6, B6, I6⟩
  · rintro σ H3 ⟨x3, x4, x5, x6, gs, ds, rfl, D3, B3, I3⟩
    clear D2 B2
    refine ⟨fun σ H' => ∃ (x3 x4 x5 x6 : Option V), σ = [some (.ref a), some (.ref d), some (.ref b), x3, x4, x5, x6], ?_, ?_⟩
    · repeat kaf_suf
      refine ⟨rfl, d, 8, MD, rfl, by decide, by decide, D3, fun H4 n k4 D4 n0 n1 => ?_⟩
      have B4 := bB D3 B3 k4
      repeat kaf_suf
      refine r_ite (fun e => ?_) (fun e => ?_)
      · repeat kaf_suf
        intro p hp
        have kp : Keep Nil H4 (upd H4 p (.lst [.str "LL....RR", .str "L.L..R.R", .str "LLL..RRR"])) := Keep.alloc hp
        have ep : (upd H4 p (.lst [.str "LL....RR", .str "L.L..R.R", .str "LLL..RRR"])) p = some (.lst [.str "LL....RR", .str "L.L..R.R", .str "LLL..RRR"]) := upd_same
        have np := D4.new hp
        repeat kaf_suf
        generalize upd H4 p (.lst [.str "LL....RR", .str "L.L..R.R", .str "LLL..RRR"]) = H5 at kp ep ⊢
        have D5 := dS D4 kp
        have B5 := B4.same kp
        refine ⟨rfl, d, 3, MD, rfl, by decide, by decide, D5, fun H6 w k6 D6 w0 w1 => ?_⟩
        have B6 := bB D5 B5 k6
        have ep6 := k6 _ _ np ep
        obtain ⟨l, hl, ol⟩ : ∃ l : List Nat, atI [V.str "LL....RR", V.str "L.L..R.R", V.str "LLL..RRR"] w = some (V.str (tS l)) ∧ OkS l := by
          have : w = 0 ∨ w = 1 ∨ w = 2 := by omega
          rcases this with rfl | rfl | rfl
          · exact ⟨[76, 76, 46, 46, 46, 46, 82, 82], rfl, by decide, by decide⟩
          · exact ⟨[76, 46, 76, 46, 46, 82, 46, 82], rfl, by decide, by decide⟩
          · exact ⟨[76, 76, 76, 46, 46, 82, 82, 82], rfl, by decide, by decide⟩
        repeat kaf_suf
        refine ⟨rfl, b, MB, gs, ds, l, rfl, B6, I3, ol, fun H7 f e k7 B7 I7 => ?_⟩
        repeat kaf_suf
        exact ⟨_, _, _, _, rfl⟩
      · repeat kaf_suf
        exact ⟨_, _, _, _, rfl⟩
    · rintro σ H4 ⟨x3, x4, x5, x6, rfl⟩
      repeat kaf_suf
      intro b dx hb hdx ndx
      repeat kaf_suf
      refine ⟨rfl, b, dx, rfl, upd_same, fun H5 M k5 B5 _ => ⟨rfl, ?_⟩⟩
      repeat kaf_suf
      refine ⟨rfl, b, M, _, _, [], rfl, B5, I2, ⟨by decide, fun c h => nomatch h⟩, fun H6 f e g k6 B6 I6 sg => ?_⟩
      have e0 : g = 0 := (sg.zero B6.ok).mpr fun s x mv => by
        generalize hl : ([] : List Nat) = l at mv
        cases mv <;> simp at hl
      repeat kaf_suf
      rw [decide_eq_true (by omega)]
      exact k _
theorem ok_law {c : Cn} {mg : Str → Option Value} {base : Heap} {f : Addr} {fd : FuncData} (T : Txt c mg) (F : Fun c.K "law" "law" s_law f fd) : FnOk c.P c.w c.K mg base CX0 80 f fd ["script"] (sp_law_law c.K) :=
  F.ok (k := 79) (N := N_law) sc_law (fun vs H Q E h => h.1) (fun cdv A outer s H vs Q E hr h => ⟨t_law c, by
  exact (pss_cons (ps_set (i := 1) sc_law.nd rfl (Or.inl rfl) (e_call (cal_law_deck T) hr (by decide) pass0 rfl (pa_cons (pv 0) pa_nil)))
  (pss_cons (ps_set (i := 2) sc_law.nd rfl (Or.inl rfl) (e_make0 (mak_Book T) hr (by decide) pass0 rfl))
  (pss_cons (ps_for PassesOwn.never rfl (pi_range1 rfl T.n_range (pa_cons pe_int pa_nil)) (pg_name (i := 3) sc_law.nd rfl (Or.inl rfl))
  (pss_cons (ps_set (i := 4) sc_law.nd rfl (Or.inl rfl) (e_call (cal_law_strip T) hr (by decide) pass0 rfl (pa_cons (pv 1) pa_nil)))
  (C8.pss_cut (ps_if (pt_not (p_tru (e_call (cal_law_are_few T) hr (by decide) pass0 rfl (pa_cons (pv 4) pa_nil)))) (pss_one (ps_set (i := 4) sc_law.nd rfl (Or.inl rfl) (pe_slice sl_str (pv 4) po_none (po_some pe_int)))) pss_nil)
  (pss_one (ps_for PassesOwn.never rfl (pi_range1 rfl T.n_range (pa_cons pe_int pa_nil)) (pg_name (i := 5) sc_law.nd rfl (Or.inl rfl))
  (pss_cons (ps_if (pt_not (p_tru (e_call (cal_law_right T) hr (by decide) pass0 rfl (pa_cons (pv 2) (pa_cons (pv 4) pa_nil))))) (pss_one (ps_ret pe_bl)) pss_nil)
  (pss_cons (ps_set (i := 6) sc_law.nd rfl (Or.inl rfl) (pe_op o_add (e_call (cal_law_lefts T) hr (by decide) pass0 rfl (pa_cons (pv 4) pa_nil)) (e_call (cal_law_rights T) hr (by decide) pass0 rfl (pa_cons (pv 4) pa_nil))))
  (pss_one (ps_if (pt_cmpR (o_ne (hu64 hr)) (pv 6) (pe_lst pa_nil) (nomark _)) (pss_one (ps_set (i := 4) sc_law.nd rfl (Or.inl rfl) (pe_ix (x_ix (hu64 hr)) (pv 6) (e_call (cal_law_draw T) hr (by decide) pass0 rfl (pa_cons (pv 1) (pa_cons (pe_callB k_len (by rfl) T.n_len (by decide +kernel) (pa_cons (pv 6) pa_nil)) pa_nil))) (fun _ _ => rfl)))) pss_nil)))))))))
  (C8.pss_cut (ps_if (pt_cmpR (o_eq (hu64 hr)) (e_call (cal_law_draw T) hr (by decide) pass0 rfl (pa_cons (pv 1) (pa_cons pe_int pa_nil))) pe_int (nomark _)) (pss_cons (ps_set (i := 4) sc_law.nd rfl (Or.inl rfl) (pe_ix (x_ix (hu64 hr)) (pe_lst (pa_cons pe_str (pa_cons pe_str (pa_cons pe_str pa_nil)))) (e_call (cal_law_draw T) hr (by decide) pass0 rfl (pa_cons (pv 1) (pa_cons pe_int pa_nil))) (fun _ _ => rfl)))
  (pss_one (ps_if (pt_not (p_tru (e_call (cal_law_right T) hr (by decide) pass0 rfl (pa_cons (pv 2) (pa_cons (pv 4) pa_nil))))) (pss_one (ps_ret pe_bl)) pss_nil))) pss_nil)
  (pss_one (ps_ret (pe_cmpR (o_eq (hu64 hr)) (e_call (cal_strip_game T) hr (by decide) pass0 rfl (pa_cons (e_make0 (mak_Book T) hr (by decide) pass0 rfl) (pa_cons pe_str pa_nil))) pe_int (nomark _)))))))), p_law T h⟩)
theorem all_mk {l : PySem.W.OpenLaw} {w : World} {K : PySem.W.Frag} {h : Heap} {mg : Str → Option Value} {fa : Addr} (X : K.In h) (G : h.Ns mainGlobals mg) (hfa : mg "law" = some (.ref fa))
    {aGameError aNoGame aNoBoard aStrips aBook : Addr}
    {tk_MOST_STRIP : _}
    {f_law_draw : Addr} {od_law_draw an_law_draw : Option Addr} {sl_law_draw : Array (Option Value)} {oc_law_draw kV_law_draw dc_law_draw pm_law_draw cd_law_draw ct_law_draw : Value}
    {f_law_deck : Addr} {od_law_deck an_law_deck : Option Addr} {sl_law_deck : Array (Option Value)} {oc_law_deck kV_law_deck dc_law_deck pm_law_deck cd_law_deck ct_law_deck : Value}
    {f_Book_need : Addr} {od_Book_need an_Book_need : Option Addr} {sl_Book_need : Array (Option Value)} {oc_Book_need kV_Book_need dc_Book_need pm_Book_need cd_Book_need ct_Book_need : Value}
    {f_Book_game : Addr} {od_Book_game an_Book_game : Option Addr} {sl_Book_game : Array (Option Value)} {oc_Book_game kV_Book_game dc_Book_game pm_Book_game cd_Book_game ct_Book_game : Value}
    {f_Book_init : Addr} {od_Book_init an_Book_init : Option Addr} {sl_Book_init : Array (Option Value)} {oc_Book_init kV_Book_init dc_Book_init pm_Book_init cd_Book_init ct_Book_init : Value}
    {f_Book_many : Addr} {od_Book_many an_Book_many : Option Addr} {sl_Book_many : Array (Option Value)} {oc_Book_many kV_Book_many dc_Book_many pm_Book_many cd_Book_many ct_Book_many : Value}
    {f_is_text_of : Addr} {od_is_text_of an_is_text_of : Option Addr} {sl_is_text_of : Array (Option Value)} {oc_is_text_of kV_is_text_of dc_is_text_of pm_is_text_of cd_is_text_of ct_is_text_of : Value}
    {f_is_strip : Addr} {od_is_strip an_is_strip : Option Addr} {sl_is_strip : Array (Option Value)} {oc_is_strip kV_is_strip dc_is_strip pm_is_strip cd_is_strip ct_is_strip : Value}
    {f_strips_behind : Addr} {od_strips_behind an_strips_behind : Option Addr} {sl_strips_behind : Array (Option Value)} {oc_strips_behind kV_strips_behind dc_strips_behind pm_strips_behind cd_strips_behind ct_strips_behind : Value}
    {f_Strips_init : Addr} {od_Strips_init an_Strips_init : Option Addr} {sl_Strips_init : Array (Option Value)} {oc_Strips_init kV_Strips_init dc_Strips_init pm_Strips_init cd_Strips_init ct_Strips_init : Value}
    {f_Strips_game : Addr} {od_Strips_game an_Strips_game : Option Addr} {sl_Strips_game : Array (Option Value)} {oc_Strips_game kV_Strips_game dc_Strips_game pm_Strips_game cd_Strips_game ct_Strips_game : Value}
    {f_strip_game : Addr} {od_strip_game an_strip_game : Option Addr} {sl_strip_game : Array (Option Value)} {oc_strip_game kV_strip_game dc_strip_game pm_strip_game cd_strip_game ct_strip_game : Value}
    {f_law_strip : Addr} {od_law_strip an_law_strip : Option Addr} {sl_law_strip : Array (Option Value)} {oc_law_strip kV_law_strip dc_law_strip pm_law_strip cd_law_strip ct_law_strip : Value}
    {f_law_lefts : Addr} {od_law_lefts an_law_lefts : Option Addr} {sl_law_lefts : Array (Option Value)} {oc_law_lefts kV_law_lefts dc_law_lefts pm_law_lefts cd_law_lefts ct_law_lefts : Value}
    {f_law_rights : Addr} {od_law_rights an_law_rights : Option Addr} {sl_law_rights : Array (Option Value)} {oc_law_rights kV_law_rights dc_law_rights pm_law_rights cd_law_rights ct_law_rights : Value}
    {f_law_are_few : Addr} {od_law_are_few an_law_are_few : Option Addr} {sl_law_are_few : Array (Option Value)} {oc_law_are_few kV_law_are_few dc_law_are_few pm_law_are_few cd_law_are_few ct_law_are_few : Value}
    {f_law_right : Addr} {od_law_right an_law_right : Option Addr} {sl_law_right : Array (Option Value)} {oc_law_right kV_law_right dc_law_right pm_law_right cd_law_right ct_law_right : Value}
    {f_Book_depth : Addr} {od_Book_depth an_Book_depth : Option Addr} {sl_Book_depth : Array (Option Value)} {oc_Book_depth kV_Book_depth dc_Book_depth pm_Book_depth cd_Book_depth ct_Book_depth : Value}
    {f_Book_lefts : Addr} {od_Book_lefts an_Book_lefts : Option Addr} {sl_Book_lefts : Array (Option Value)} {oc_Book_lefts kV_Book_lefts dc_Book_lefts pm_Book_lefts cd_Book_lefts ct_Book_lefts : Value}
    {f_Book_rights : Addr} {od_Book_rights an_Book_rights : Option Addr} {sl_Book_rights : Array (Option Value)} {oc_Book_rights kV_Book_rights dc_Book_rights pm_Book_rights cd_Book_rights ct_Book_rights : Value}
    {f_law : Addr} {od_law an_law : Option Addr} {sl_law : Array (Option Value)} {oc_law kV_law dc_law pm_law cd_law ct_law : Value}
    (a_GameError : PySem.W.nsIn K mainGlobals "GameError" = some (some (.ref aGameError)))
    (a_NoGame : PySem.W.nsIn K mainGlobals "NoGame" = some (some (.ref aNoGame)))
    (a_NoBoard : PySem.W.nsIn K mainGlobals "NoBoard" = some (some (.ref aNoBoard)))
    (a_Strips : PySem.W.nsIn K mainGlobals "Strips" = some (some (.ref aStrips)))
    (a_Book : PySem.W.nsIn K mainGlobals "Book" = some (some (.ref aBook)))
    (pg_Strips : PySem.W.plainGet K aStrips Str.empty = true)
    (hd_Strips : PySem.W.hasDictIn K aStrips = true)
    (po_Strips : PySem.W.plainOver K aStrips = true)
    (sa_Strips : PySem.W.findIn K (.ref aStrips) "__setattr__" = some (some (.builtin "object.__setattr__")))
    (mk_Strips : PySem.W.makesIn K aStrips = true)
    (kc_Strips : PySem.W.keepIn K (.ref aStrips) = true)
    (na_Strips_book : PySem.W.findIn K (.ref aStrips) "book" = some none)
    (na_Strips_games : PySem.W.findIn K (.ref aStrips) "games" = some none)
    (pg_Book : PySem.W.plainGet K aBook Str.empty = true)
    (hd_Book : PySem.W.hasDictIn K aBook = true)
    (po_Book : PySem.W.plainOver K aBook = true)
    (sa_Book : PySem.W.findIn K (.ref aBook) "__setattr__" = some (some (.builtin "object.__setattr__")))
    (mk_Book : PySem.W.makesIn K aBook = true)
    (kc_Book : PySem.W.keepIn K (.ref aBook) = true)
    (na_Book_depths : PySem.W.findIn K (.ref aBook) "depths" = some none)
    (na_Book_moves : PySem.W.findIn K (.ref aBook) "moves" = some none)
    (na_Book_numbers : PySem.W.findIn K (.ref aBook) "numbers" = some none)
    (n_bool : PySem.W.nsIn K mainGlobals "bool" = some none)
    (n_int : PySem.W.nsIn K mainGlobals "int" = some none)
    (n_isinstance : PySem.W.nsIn K mainGlobals "isinstance" = some none)
    (n_len : PySem.W.nsIn K mainGlobals "len" = some none)
    (n_list : PySem.W.nsIn K mainGlobals "list" = some none)
    (n_max : PySem.W.nsIn K mainGlobals "max" = some none)
    (n_min : PySem.W.nsIn K mainGlobals "min" = some none)
    (n_range : PySem.W.nsIn K mainGlobals "range" = some none)
    (n_set : PySem.W.nsIn K mainGlobals "set" = some none)
    (n_sorted : PySem.W.nsIn K mainGlobals "sorted" = some none)
    (n_str : PySem.W.nsIn K mainGlobals "str" = some none)
    (n_tuple : PySem.W.nsIn K mainGlobals "tuple" = some none)
    (v_MOST_STRIP : PySem.W.nsIn K mainGlobals "MOST_STRIP" = some (some (.int 8 tk_MOST_STRIP)))
    (a_law_draw : PySem.W.nsIn K mainGlobals "_law_draw" = some (some (.ref f_law_draw)))
    (l_law_draw : K.lookup f_law_draw = some ⟨oc_law_draw, od_law_draw, .func (PySem.W.fnOf "_law_draw" "_law_draw" (defArgs s_law_draw) (defBody s_law_draw) (defScope s_law_draw) .none kV_law_draw dc_law_draw pm_law_draw an_law_draw cd_law_draw ct_law_draw), sl_law_draw⟩)
    (c_law_draw : PySem.W.codeIn K cd_law_draw "_law_draw" = true)
    (k_law_draw : PySem.W.keepIn K (.ref f_law_draw) = true)
    (a_law_deck : PySem.W.nsIn K mainGlobals "_law_deck" = some (some (.ref f_law_deck)))
    (l_law_deck : K.lookup f_law_deck = some ⟨oc_law_deck, od_law_deck, .func (PySem.W.fnOf "_law_deck" "_law_deck" (defArgs s_law_deck) (defBody s_law_deck) (defScope s_law_deck) .none kV_law_deck dc_law_deck pm_law_deck an_law_deck cd_law_deck ct_law_deck), sl_law_deck⟩)
    (c_law_deck : PySem.W.codeIn K cd_law_deck "_law_deck" = true)
    (k_law_deck : PySem.W.keepIn K (.ref f_law_deck) = true)
    (a_Book_need : PySem.W.findIn K (.ref aBook) "need" = some (some (.ref f_Book_need)))
    (i_Book_need : PySem.W.isFn K (.ref f_Book_need) = true)
    (l_Book_need : K.lookup f_Book_need = some ⟨oc_Book_need, od_Book_need, .func (PySem.W.fnOf "need" "Book.need" (defArgs s_Book_need) (defBody s_Book_need) (defScope s_Book_need) .none kV_Book_need dc_Book_need pm_Book_need an_Book_need cd_Book_need ct_Book_need), sl_Book_need⟩)
    (c_Book_need : PySem.W.codeIn K cd_Book_need "Book.need" = true)
    (k_Book_need : PySem.W.keepIn K (.ref f_Book_need) = true)
    (a_Book_game : PySem.W.findIn K (.ref aBook) "game" = some (some (.ref f_Book_game)))
    (i_Book_game : PySem.W.isFn K (.ref f_Book_game) = true)
    (l_Book_game : K.lookup f_Book_game = some ⟨oc_Book_game, od_Book_game, .func (PySem.W.fnOf "game" "Book.game" (defArgs s_Book_game) (defBody s_Book_game) (defScope s_Book_game) .none kV_Book_game dc_Book_game pm_Book_game an_Book_game cd_Book_game ct_Book_game), sl_Book_game⟩)
    (c_Book_game : PySem.W.codeIn K cd_Book_game "Book.game" = true)
    (k_Book_game : PySem.W.keepIn K (.ref f_Book_game) = true)
    (a_Book_init : PySem.W.findIn K (.ref aBook) "__init__" = some (some (.ref f_Book_init)))
    (i_Book_init : PySem.W.isFn K (.ref f_Book_init) = true)
    (l_Book_init : K.lookup f_Book_init = some ⟨oc_Book_init, od_Book_init, .func (PySem.W.fnOf "__init__" "Book.__init__" (defArgs s_Book_init) (defBody s_Book_init) (defScope s_Book_init) .none kV_Book_init dc_Book_init pm_Book_init an_Book_init cd_Book_init ct_Book_init), sl_Book_init⟩)
    (c_Book_init : PySem.W.codeIn K cd_Book_init "Book.__init__" = true)
    (k_Book_init : PySem.W.keepIn K (.ref f_Book_init) = true)
    (a_Book_many : PySem.W.findIn K (.ref aBook) "many" = some (some (.ref f_Book_many)))
    (i_Book_many : PySem.W.isFn K (.ref f_Book_many) = true)
    (l_Book_many : K.lookup f_Book_many = some ⟨oc_Book_many, od_Book_many, .func (PySem.W.fnOf "many" "Book.many" (defArgs s_Book_many) (defBody s_Book_many) (defScope s_Book_many) .none kV_Book_many dc_Book_many pm_Book_many an_Book_many cd_Book_many ct_Book_many), sl_Book_many⟩)
    (c_Book_many : PySem.W.codeIn K cd_Book_many "Book.many" = true)
    (k_Book_many : PySem.W.keepIn K (.ref f_Book_many) = true)
    (a_is_text_of : PySem.W.nsIn K mainGlobals "is_text_of" = some (some (.ref f_is_text_of)))
    (l_is_text_of : K.lookup f_is_text_of = some ⟨oc_is_text_of, od_is_text_of, .func (PySem.W.fnOf "is_text_of" "is_text_of" (defArgs s_is_text_of) (defBody s_is_text_of) (defScope s_is_text_of) .none kV_is_text_of dc_is_text_of pm_is_text_of an_is_text_of cd_is_text_of ct_is_text_of), sl_is_text_of⟩)
    (c_is_text_of : PySem.W.codeIn K cd_is_text_of "is_text_of" = true)
    (k_is_text_of : PySem.W.keepIn K (.ref f_is_text_of) = true)
    (a_is_strip : PySem.W.nsIn K mainGlobals "is_strip" = some (some (.ref f_is_strip)))
    (l_is_strip : K.lookup f_is_strip = some ⟨oc_is_strip, od_is_strip, .func (PySem.W.fnOf "is_strip" "is_strip" (defArgs s_is_strip) (defBody s_is_strip) (defScope s_is_strip) .none kV_is_strip dc_is_strip pm_is_strip an_is_strip cd_is_strip ct_is_strip), sl_is_strip⟩)
    (c_is_strip : PySem.W.codeIn K cd_is_strip "is_strip" = true)
    (k_is_strip : PySem.W.keepIn K (.ref f_is_strip) = true)
    (a_strips_behind : PySem.W.nsIn K mainGlobals "strips_behind" = some (some (.ref f_strips_behind)))
    (l_strips_behind : K.lookup f_strips_behind = some ⟨oc_strips_behind, od_strips_behind, .func (PySem.W.fnOf "strips_behind" "strips_behind" (defArgs s_strips_behind) (defBody s_strips_behind) (defScope s_strips_behind) .none kV_strips_behind dc_strips_behind pm_strips_behind an_strips_behind cd_strips_behind ct_strips_behind), sl_strips_behind⟩)
    (c_strips_behind : PySem.W.codeIn K cd_strips_behind "strips_behind" = true)
    (k_strips_behind : PySem.W.keepIn K (.ref f_strips_behind) = true)
    (a_Strips_init : PySem.W.findIn K (.ref aStrips) "__init__" = some (some (.ref f_Strips_init)))
    (i_Strips_init : PySem.W.isFn K (.ref f_Strips_init) = true)
    (l_Strips_init : K.lookup f_Strips_init = some ⟨oc_Strips_init, od_Strips_init, .func (PySem.W.fnOf "__init__" "Strips.__init__" (defArgs s_Strips_init) (defBody s_Strips_init) (defScope s_Strips_init) .none kV_Strips_init dc_Strips_init pm_Strips_init an_Strips_init cd_Strips_init ct_Strips_init), sl_Strips_init⟩)
    (c_Strips_init : PySem.W.codeIn K cd_Strips_init "Strips.__init__" = true)
    (k_Strips_init : PySem.W.keepIn K (.ref f_Strips_init) = true)
    (a_Strips_game : PySem.W.findIn K (.ref aStrips) "game" = some (some (.ref f_Strips_game)))
    (i_Strips_game : PySem.W.isFn K (.ref f_Strips_game) = true)
    (l_Strips_game : K.lookup f_Strips_game = some ⟨oc_Strips_game, od_Strips_game, .func (PySem.W.fnOf "game" "Strips.game" (defArgs s_Strips_game) (defBody s_Strips_game) (defScope s_Strips_game) .none kV_Strips_game dc_Strips_game pm_Strips_game an_Strips_game cd_Strips_game ct_Strips_game), sl_Strips_game⟩)
    (c_Strips_game : PySem.W.codeIn K cd_Strips_game "Strips.game" = true)
    (k_Strips_game : PySem.W.keepIn K (.ref f_Strips_game) = true)
    (a_strip_game : PySem.W.nsIn K mainGlobals "strip_game" = some (some (.ref f_strip_game)))
    (l_strip_game : K.lookup f_strip_game = some ⟨oc_strip_game, od_strip_game, .func (PySem.W.fnOf "strip_game" "strip_game" (defArgs s_strip_game) (defBody s_strip_game) (defScope s_strip_game) .none kV_strip_game dc_strip_game pm_strip_game an_strip_game cd_strip_game ct_strip_game), sl_strip_game⟩)
    (c_strip_game : PySem.W.codeIn K cd_strip_game "strip_game" = true)
    (k_strip_game : PySem.W.keepIn K (.ref f_strip_game) = true)
    (a_law_strip : PySem.W.nsIn K mainGlobals "_law_strip" = some (some (.ref f_law_strip)))
    (l_law_strip : K.lookup f_law_strip = some ⟨oc_law_strip, od_law_strip, .func (PySem.W.fnOf "_law_strip" "_law_strip" (defArgs s_law_strip) (defBody s_law_strip) (defScope s_law_strip) .none kV_law_strip dc_law_strip pm_law_strip an_law_strip cd_law_strip ct_law_strip), sl_law_strip⟩)
    (c_law_strip : PySem.W.codeIn K cd_law_strip "_law_strip" = true)
    (k_law_strip : PySem.W.keepIn K (.ref f_law_strip) = true)
    (a_law_lefts : PySem.W.nsIn K mainGlobals "_law_lefts" = some (some (.ref f_law_lefts)))
    (l_law_lefts : K.lookup f_law_lefts = some ⟨oc_law_lefts, od_law_lefts, .func (PySem.W.fnOf "_law_lefts" "_law_lefts" (defArgs s_law_lefts) (defBody s_law_lefts) (defScope s_law_lefts) .none kV_law_lefts dc_law_lefts pm_law_lefts an_law_lefts cd_law_lefts ct_law_lefts), sl_law_lefts⟩)
    (c_law_lefts : PySem.W.codeIn K cd_law_lefts "_law_lefts" = true)
    (k_law_lefts : PySem.W.keepIn K (.ref f_law_lefts) = true)
    (a_law_rights : PySem.W.nsIn K mainGlobals "_law_rights" = some (some (.ref f_law_rights)))
    (l_law_rights : K.lookup f_law_rights = some ⟨oc_law_rights, od_law_rights, .func (PySem.W.fnOf "_law_rights" "_law_rights" (defArgs s_law_rights) (defBody s_law_rights) (defScope s_law_rights) .none kV_law_rights dc_law_rights pm_law_rights an_law_rights cd_law_rights ct_law_rights), sl_law_rights⟩)
    (c_law_rights : PySem.W.codeIn K cd_law_rights "_law_rights" = true)
    (k_law_rights : PySem.W.keepIn K (.ref f_law_rights) = true)
    (a_law_are_few : PySem.W.nsIn K mainGlobals "_law_are_few" = some (some (.ref f_law_are_few)))
    (l_law_are_few : K.lookup f_law_are_few = some ⟨oc_law_are_few, od_law_are_few, .func (PySem.W.fnOf "_law_are_few" "_law_are_few" (defArgs s_law_are_few) (defBody s_law_are_few) (defScope s_law_are_few) .none kV_law_are_few dc_law_are_few pm_law_are_few an_law_are_few cd_law_are_few ct_law_are_few), sl_law_are_few⟩)
    (c_law_are_few : PySem.W.codeIn K cd_law_are_few "_law_are_few" = true)
    (k_law_are_few : PySem.W.keepIn K (.ref f_law_are_few) = true)
    (a_law_right : PySem.W.nsIn K mainGlobals "_law_right" = some (some (.ref f_law_right)))
    (l_law_right : K.lookup f_law_right = some ⟨oc_law_right, od_law_right, .func (PySem.W.fnOf "_law_right" "_law_right" (defArgs s_law_right) (defBody s_law_right) (defScope s_law_right) .none kV_law_right dc_law_right pm_law_right an_law_right cd_law_right ct_law_right), sl_law_right⟩)
    (c_law_right : PySem.W.codeIn K cd_law_right "_law_right" = true)
    (k_law_right : PySem.W.keepIn K (.ref f_law_right) = true)
    (a_Book_depth : PySem.W.findIn K (.ref aBook) "depth" = some (some (.ref f_Book_depth)))
    (i_Book_depth : PySem.W.isFn K (.ref f_Book_depth) = true)
    (l_Book_depth : K.lookup f_Book_depth = some ⟨oc_Book_depth, od_Book_depth, .func (PySem.W.fnOf "depth" "Book.depth" (defArgs s_Book_depth) (defBody s_Book_depth) (defScope s_Book_depth) .none kV_Book_depth dc_Book_depth pm_Book_depth an_Book_depth cd_Book_depth ct_Book_depth), sl_Book_depth⟩)
    (c_Book_depth : PySem.W.codeIn K cd_Book_depth "Book.depth" = true)
    (k_Book_depth : PySem.W.keepIn K (.ref f_Book_depth) = true)
    (a_Book_lefts : PySem.W.findIn K (.ref aBook) "lefts" = some (some (.ref f_Book_lefts)))
    (i_Book_lefts : PySem.W.isFn K (.ref f_Book_lefts) = true)
    (l_Book_lefts : K.lookup f_Book_lefts = some ⟨oc_Book_lefts, od_Book_lefts, .func (PySem.W.fnOf "lefts" "Book.lefts" (defArgs s_Book_lefts) (defBody s_Book_lefts) (defScope s_Book_lefts) .none kV_Book_lefts dc_Book_lefts pm_Book_lefts an_Book_lefts cd_Book_lefts ct_Book_lefts), sl_Book_lefts⟩)
    (c_Book_lefts : PySem.W.codeIn K cd_Book_lefts "Book.lefts" = true)
    (k_Book_lefts : PySem.W.keepIn K (.ref f_Book_lefts) = true)
    (a_Book_rights : PySem.W.findIn K (.ref aBook) "rights" = some (some (.ref f_Book_rights)))
    (i_Book_rights : PySem.W.isFn K (.ref f_Book_rights) = true)
    (l_Book_rights : K.lookup f_Book_rights = some ⟨oc_Book_rights, od_Book_rights, .func (PySem.W.fnOf "rights" "Book.rights" (defArgs s_Book_rights) (defBody s_Book_rights) (defScope s_Book_rights) .none kV_Book_rights dc_Book_rights pm_Book_rights an_Book_rights cd_Book_rights ct_Book_rights), sl_Book_rights⟩)
    (c_Book_rights : PySem.W.codeIn K cd_Book_rights "Book.rights" = true)
    (k_Book_rights : PySem.W.keepIn K (.ref f_Book_rights) = true)
    (a_law : PySem.W.nsIn K mainGlobals "law" = some (some (.ref f_law)))
    (l_law : K.lookup f_law = some ⟨oc_law, od_law, .func (PySem.W.fnOf "law" "law" (defArgs s_law) (defBody s_law) (defScope s_law) .none kV_law dc_law pm_law an_law cd_law ct_law), sl_law⟩)
    (c_law : PySem.W.codeIn K cd_law "law" = true)
    (k_law : PySem.W.keepIn K (.ref f_law) = true)
    : ∃ fd : FuncData, (∀ (s : Shared) (v : Value), BindsTo s fd ⟨[v], []⟩ [("script", v)]) ∧ ∀ base : Heap, K.In base → base.Ns mainGlobals mg → FnOk l.prog w K mg base CX0 80 fa fd ["script"] (sp_law_law K) := by
  have e := hfa.symm.trans (PySem.W.mg_of X G a_law)
  cases e
  let c : Cn := { P := l.prog, w := w, K := K, cGameError := aGameError, cNoGame := aNoGame, cNoBoard := aNoBoard, cStrips := aStrips, cBook := aBook }
  have T : Txt c mg := { n_bool := PySem.W.mg_none_of X G n_bool, n_int := PySem.W.mg_none_of X G n_int, n_isinstance := PySem.W.mg_none_of X G n_isinstance, n_len := PySem.W.mg_none_of X G n_len, n_list := PySem.W.mg_none_of X G n_list, n_max := PySem.W.mg_none_of X G n_max, n_min := PySem.W.mg_none_of X G n_min, n_range := PySem.W.mg_none_of X G n_range, n_set := PySem.W.mg_none_of X G n_set, n_sorted := PySem.W.mg_none_of X G n_sorted, n_str := PySem.W.mg_none_of X G n_str, n_tuple := PySem.W.mg_none_of X G n_tuple, g_GameError := PySem.W.mg_of X G a_GameError, g_NoGame := PySem.W.mg_of X G a_NoGame, g_NoBoard := PySem.W.mg_of X G a_NoBoard, g_Strips := PySem.W.mg_of X G a_Strips, g_Book := PySem.W.mg_of X G a_Book, g_MOST_STRIP := ⟨_, PySem.W.mg_of X G v_MOST_STRIP⟩, cl_Strips := ⟨pg_Strips, hd_Strips, po_Strips, sa_Strips⟩, na_Strips_book := na_Strips_book, na_Strips_games := na_Strips_games, cl_Book := ⟨pg_Book, hd_Book, po_Book, sa_Book⟩, na_Book_depths := na_Book_depths, na_Book_moves := na_Book_moves, na_Book_numbers := na_Book_numbers, F_law_draw := ⟨_, _, fun_mk (st := s_law_draw) l_law_draw c_law_draw k_law_draw, PySem.W.mg_of X G a_law_draw, ((fun_mk (st := s_law_draw) l_law_draw c_law_draw k_law_draw).binds (ps := ["deck", "many"]) fun _ _ _ _ _ _ us hl => match us, hl with | [_, _], _ => rfl)⟩, F_law_deck := ⟨_, _, fun_mk (st := s_law_deck) l_law_deck c_law_deck k_law_deck, PySem.W.mg_of X G a_law_deck, ((fun_mk (st := s_law_deck) l_law_deck c_law_deck k_law_deck).binds (ps := ["script"]) fun _ _ _ _ _ _ us hl => match us, hl with | [_], _ => rfl)⟩, F_Book_need := ⟨_, _, fun_mk (st := s_Book_need) l_Book_need c_Book_need k_Book_need, ⟨a_Book_need, i_Book_need, k_Book_need⟩, ((fun_mk (st := s_Book_need) l_Book_need c_Book_need k_Book_need).binds (ps := ["self", "g"]) fun _ _ _ _ _ _ us hl => match us, hl with | [_, _], _ => rfl)⟩, F_Book_game := ⟨_, _, fun_mk (st := s_Book_game) l_Book_game c_Book_game k_Book_game, ⟨a_Book_game, i_Book_game, k_Book_game⟩, ((fun_mk (st := s_Book_game) l_Book_game c_Book_game k_Book_game).binds (ps := ["self", "lefts", "rights"]) fun _ _ _ _ _ _ us hl => match us, hl with | [_, _, _], _ => rfl)⟩, F_Book_init := ⟨_, _, fun_mk (st := s_Book_init) l_Book_init c_Book_init k_Book_init, ⟨mk_Book, a_Book_init, i_Book_init, kc_Book⟩, ((fun_mk (st := s_Book_init) l_Book_init c_Book_init k_Book_init).binds (ps := ["self"]) fun _ _ _ _ _ _ us hl => match us, hl with | [_], _ => rfl)⟩, F_Book_many := ⟨_, _, fun_mk (st := s_Book_many) l_Book_many c_Book_many k_Book_many, ⟨a_Book_many, i_Book_many, k_Book_many⟩, ((fun_mk (st := s_Book_many) l_Book_many c_Book_many k_Book_many).binds (ps := ["self"]) fun _ _ _ _ _ _ us hl => match us, hl with | [_], _ => rfl)⟩, F_is_text_of := ⟨_, _, fun_mk (st := s_is_text_of) l_is_text_of c_is_text_of k_is_text_of, PySem.W.mg_of X G a_is_text_of, ((fun_mk (st := s_is_text_of) l_is_text_of c_is_text_of k_is_text_of).binds (ps := ["thing", "signs"]) fun _ _ _ _ _ _ us hl => match us, hl with | [_, _], _ => rfl)⟩, F_is_strip := ⟨_, _, fun_mk (st := s_is_strip) l_is_strip c_is_strip k_is_strip, PySem.W.mg_of X G a_is_strip, ((fun_mk (st := s_is_strip) l_is_strip c_is_strip k_is_strip).binds (ps := ["thing"]) fun _ _ _ _ _ _ us hl => match us, hl with | [_], _ => rfl)⟩, F_strips_behind := ⟨_, _, fun_mk (st := s_strips_behind) l_strips_behind c_strips_behind k_strips_behind, PySem.W.mg_of X G a_strips_behind, ((fun_mk (st := s_strips_behind) l_strips_behind c_strips_behind k_strips_behind).binds (ps := ["text", "mark", "way"]) fun _ _ _ _ _ _ us hl => match us, hl with | [_, _, _], _ => rfl)⟩, F_Strips_init := ⟨_, _, fun_mk (st := s_Strips_init) l_Strips_init c_Strips_init k_Strips_init, ⟨mk_Strips, a_Strips_init, i_Strips_init, kc_Strips⟩, ((fun_mk (st := s_Strips_init) l_Strips_init c_Strips_init k_Strips_init).binds (ps := ["self", "book"]) fun _ _ _ _ _ _ us hl => match us, hl with | [_, _], _ => rfl)⟩, F_Strips_game := ⟨_, _, fun_mk (st := s_Strips_game) l_Strips_game c_Strips_game k_Strips_game, ⟨a_Strips_game, i_Strips_game, k_Strips_game⟩, ((fun_mk (st := s_Strips_game) l_Strips_game c_Strips_game k_Strips_game).binds (ps := ["self", "text"]) fun _ _ _ _ _ _ us hl => match us, hl with | [_, _], _ => rfl)⟩, F_strip_game := ⟨_, _, fun_mk (st := s_strip_game) l_strip_game c_strip_game k_strip_game, PySem.W.mg_of X G a_strip_game, ((fun_mk (st := s_strip_game) l_strip_game c_strip_game k_strip_game).binds (ps := ["book", "strip"]) fun _ _ _ _ _ _ us hl => match us, hl with | [_, _], _ => rfl)⟩, F_law_strip := ⟨_, _, fun_mk (st := s_law_strip) l_law_strip c_law_strip k_law_strip, PySem.W.mg_of X G a_law_strip, ((fun_mk (st := s_law_strip) l_law_strip c_law_strip k_law_strip).binds (ps := ["deck"]) fun _ _ _ _ _ _ us hl => match us, hl with | [_], _ => rfl)⟩, F_law_lefts := ⟨_, _, fun_mk (st := s_law_lefts) l_law_lefts c_law_lefts k_law_lefts, PySem.W.mg_of X G a_law_lefts, ((fun_mk (st := s_law_lefts) l_law_lefts c_law_lefts k_law_lefts).binds (ps := ["strip"]) fun _ _ _ _ _ _ us hl => match us, hl with | [_], _ => rfl)⟩, F_law_rights := ⟨_, _, fun_mk (st := s_law_rights) l_law_rights c_law_rights k_law_rights, PySem.W.mg_of X G a_law_rights, ((fun_mk (st := s_law_rights) l_law_rights c_law_rights k_law_rights).binds (ps := ["strip"]) fun _ _ _ _ _ _ us hl => match us, hl with | [_], _ => rfl)⟩, F_law_are_few := ⟨_, _, fun_mk (st := s_law_are_few) l_law_are_few c_law_are_few k_law_are_few, PySem.W.mg_of X G a_law_are_few, ((fun_mk (st := s_law_are_few) l_law_are_few c_law_are_few k_law_are_few).binds (ps := ["strip"]) fun _ _ _ _ _ _ us hl => match us, hl with | [_], _ => rfl)⟩, F_law_right := ⟨_, _, fun_mk (st := s_law_right) l_law_right c_law_right k_law_right, PySem.W.mg_of X G a_law_right, ((fun_mk (st := s_law_right) l_law_right c_law_right k_law_right).binds (ps := ["book", "strip"]) fun _ _ _ _ _ _ us hl => match us, hl with | [_, _], _ => rfl)⟩, F_Book_depth := ⟨_, _, fun_mk (st := s_Book_depth) l_Book_depth c_Book_depth k_Book_depth, ⟨a_Book_depth, i_Book_depth, k_Book_depth⟩, ((fun_mk (st := s_Book_depth) l_Book_depth c_Book_depth k_Book_depth).binds (ps := ["self", "g"]) fun _ _ _ _ _ _ us hl => match us, hl with | [_, _], _ => rfl)⟩, F_Book_lefts := ⟨_, _, fun_mk (st := s_Book_lefts) l_Book_lefts c_Book_lefts k_Book_lefts, ⟨a_Book_lefts, i_Book_lefts, k_Book_lefts⟩, ((fun_mk (st := s_Book_lefts) l_Book_lefts c_Book_lefts k_Book_lefts).binds (ps := ["self", "g"]) fun _ _ _ _ _ _ us hl => match us, hl with | [_, _], _ => rfl)⟩, F_Book_rights := ⟨_, _, fun_mk (st := s_Book_rights) l_Book_rights c_Book_rights k_Book_rights, ⟨a_Book_rights, i_Book_rights, k_Book_rights⟩, ((fun_mk (st := s_Book_rights) l_Book_rights c_Book_rights k_Book_rights).binds (ps := ["self", "g"]) fun _ _ _ _ _ _ us hl => match us, hl with | [_, _], _ => rfl)⟩ }
  exact ⟨_, fun s v => .of_eq rfl, fun base _ _ => ok_law T (fun_mk (st := s_law) l_law c_law k_law)⟩
theorem walk {l : PySem.W.OpenLaw} {q : Program} {loose : List Str} {XP : (Str → Option Value) → Heap → Prop} {YP : World → Heap → Prop} {d : DefRec} {K : Params → PySem.W.Frag} (hn : l.most = some 63) (hdf : d.params.defaults = [])
    (hY : ∀ (w : World) (h : Heap), YP w h → (K w.params).In h)
    (F : ∀ (w : World) (mg : Str → Option Value) (fa : Addr) (h : Heap), (K w.params).In h → h.Ns mainGlobals mg → mg d.name = some (.ref fa) →
      ∃ fd : FuncData, (∀ (s : Shared) (u : Value), BindsTo s fd ⟨[u], []⟩ [("script", u)]) ∧ ∀ base : Heap, (K w.params).In base → base.Ns mainGlobals mg → FnOk l.prog w (K w.params) mg base CX0 80 fa fd ["script"] (sp_law_law (K w.params))) :
    PySem.W.WalkO q loose XP YP l.row.toRowW d [] (fun f vs => PySem.call f vs) :=
  L2.walk_of (n := 63) (k := 80) (x := "script") (CX := fun _ => CX0) (sp := fun w => sp_law_law (K w.params)) hn (by decide) hdf ⟨rfl, by decide, by decide⟩ hY F (fun _ H a ns hl _ hS => ⟨rfl, a, ns, rfl, hS, hl, fun _ => rfl⟩) fun _ _ _ _ _ z => z
end Hm

open PySem PySem.W PyProof.Rows in
set_option maxRecDepth 100000 in
set_option maxHeartbeats 0 in
theorem PySem.Challenge.cw_hotmoves_k73_strips_holds : PySem.Challenge.rw_hotmoves_k73_strips.Holds := by
  w_on; o_law; k_head; (case hw => w_witness2)
  k_fill
  refine Hm.walk (l := PySem.Challenge.rw_hotmoves_k73_strips) rfl rfl (fun w h Y => PySem.W.kIn_of Y) ?F
  case F =>
    intro w mg fa h KX G hmg
    refine' Hm.all_mk KX G hmg ?a_GameError ?a_NoGame ?a_NoBoard ?a_Strips ?a_Book ?pg_Strips ?hd_Strips ?po_Strips ?sa_Strips ?mk_Strips ?kc_Strips ?na_Strips_book ?na_Strips_games ?pg_Book ?hd_Book ?po_Book ?sa_Book ?mk_Book ?kc_Book ?na_Book_depths ?na_Book_moves ?na_Book_numbers ?n_bool ?n_int ?n_isinstance ?n_len ?n_list ?n_max ?n_min ?n_range ?n_set ?n_sorted ?n_str ?n_tuple ?v_MOST_STRIP ?a_law_draw ?l_law_draw ?c_law_draw ?k_law_draw ?a_law_deck ?l_law_deck ?c_law_deck ?k_law_deck ?a_Book_need ?i_Book_need ?l_Book_need ?c_Book_need ?k_Book_need ?a_Book_game ?i_Book_game ?l_Book_game ?c_Book_game ?k_Book_game ?a_Book_init ?i_Book_init ?l_Book_init ?c_Book_init ?k_Book_init ?a_Book_many ?i_Book_many ?l_Book_many ?c_Book_many ?k_Book_many ?a_is_text_of ?l_is_text_of ?c_is_text_of ?k_is_text_of ?a_is_strip ?l_is_strip ?c_is_strip ?k_is_strip ?a_strips_behind ?l_strips_behind ?c_strips_behind ?k_strips_behind ?a_Strips_init ?i_Strips_init ?l_Strips_init ?c_Strips_init ?k_Strips_init ?a_Strips_game ?i_Strips_game ?l_Strips_game ?c_Strips_game ?k_Strips_game ?a_strip_game ?l_strip_game ?c_strip_game ?k_strip_game ?a_law_strip ?l_law_strip ?c_law_strip ?k_law_strip ?a_law_lefts ?l_law_lefts ?c_law_lefts ?k_law_lefts ?a_law_rights ?l_law_rights ?c_law_rights ?k_law_rights ?a_law_are_few ?l_law_are_few ?c_law_are_few ?k_law_are_few ?a_law_right ?l_law_right ?c_law_right ?k_law_right ?a_Book_depth ?i_Book_depth ?l_Book_depth ?c_Book_depth ?k_Book_depth ?a_Book_lefts ?i_Book_lefts ?l_Book_lefts ?c_Book_lefts ?k_Book_lefts ?a_Book_rights ?i_Book_rights ?l_Book_rights ?c_Book_rights ?k_Book_rights ?a_law ?l_law ?c_law ?k_law
    (case a_GameError => k_is)
    (case a_NoGame => k_is)
    (case a_NoBoard => k_is)
    (case a_Strips => k_is)
    (case a_Book => k_is)
    (case pg_Strips => k_is)
    (case hd_Strips => k_is)
    (case po_Strips => k_is)
    (case sa_Strips => k_is)
    (case mk_Strips => k_is)
    (case kc_Strips => k_is)
    (case na_Strips_book => k_is)
    (case na_Strips_games => k_is)
    (case pg_Book => k_is)
    (case hd_Book => k_is)
    (case po_Book => k_is)
    (case sa_Book => k_is)
    (case mk_Book => k_is)
    (case kc_Book => k_is)
    (case na_Book_depths => k_is)
    (case na_Book_moves => k_is)
    (case na_Book_numbers => k_is)
    (case n_bool => k_is)
    (case n_int => k_is)
    (case n_isinstance => k_is)
    (case n_len => k_is)
    (case n_list => k_is)
    (case n_max => k_is)
    (case n_min => k_is)
    (case n_range => k_is)
    (case n_set => k_is)
    (case n_sorted => k_is)
    (case n_str => k_is)
    (case n_tuple => k_is)
    (case v_MOST_STRIP => k_is)
    (case a_law_draw => k_is)
    (case l_law_draw => k_is)
    (case c_law_draw => k_is)
    (case k_law_draw => k_is)
    (case a_law_deck => k_is)
    (case l_law_deck => k_is)
    (case c_law_deck => k_is)
    (case k_law_deck => k_is)
    (case a_Book_need => k_is)
    (case i_Book_need => k_is)
    (case l_Book_need => k_is)
    (case c_Book_need => k_is)
    (case k_Book_need => k_is)
    (case a_Book_game => k_is)
    (case i_Book_game => k_is)
    (case l_Book_game => k_is)
    (case c_Book_game => k_is)
    (case k_Book_game => k_is)
    (case a_Book_init => k_is)
    (case i_Book_init => k_is)
    (case l_Book_init => k_is)
    (case c_Book_init => k_is)
    (case k_Book_init => k_is)
    (case a_Book_many => k_is)
    (case i_Book_many => k_is)
    (case l_Book_many => k_is)
    (case c_Book_many => k_is)
    (case k_Book_many => k_is)
    (case a_is_text_of => k_is)
    (case l_is_text_of => k_is)
    (case c_is_text_of => k_is)
    (case k_is_text_of => k_is)
    (case a_is_strip => k_is)
    (case l_is_strip => k_is)
    (case c_is_strip => k_is)
    (case k_is_strip => k_is)
    (case a_strips_behind => k_is)
    (case l_strips_behind => k_is)
    (case c_strips_behind => k_is)
    (case k_strips_behind => k_is)
    (case a_Strips_init => k_is)
    (case i_Strips_init => k_is)
    (case l_Strips_init => k_is)
    (case c_Strips_init => k_is)
    (case k_Strips_init => k_is)
    (case a_Strips_game => k_is)
    (case i_Strips_game => k_is)
    (case l_Strips_game => k_is)
    (case c_Strips_game => k_is)
    (case k_Strips_game => k_is)
    (case a_strip_game => k_is)
    (case l_strip_game => k_is)
    (case c_strip_game => k_is)
    (case k_strip_game => k_is)
    (case a_law_strip => k_is)
    (case l_law_strip => k_is)
    (case c_law_strip => k_is)
    (case k_law_strip => k_is)
    (case a_law_lefts => k_is)
    (case l_law_lefts => k_is)
    (case c_law_lefts => k_is)
    (case k_law_lefts => k_is)
    (case a_law_rights => k_is)
    (case l_law_rights => k_is)
    (case c_law_rights => k_is)
    (case k_law_rights => k_is)
    (case a_law_are_few => k_is)
    (case l_law_are_few => k_is)
    (case c_law_are_few => k_is)
    (case k_law_are_few => k_is)
    (case a_law_right => k_is)
    (case l_law_right => k_is)
    (case c_law_right => k_is)
    (case k_law_right => k_is)
    (case a_Book_depth => k_is)
    (case i_Book_depth => k_is)
    (case l_Book_depth => k_is)
    (case c_Book_depth => k_is)
    (case k_Book_depth => k_is)
    (case a_Book_lefts => k_is)
    (case i_Book_lefts => k_is)
    (case l_Book_lefts => k_is)
    (case c_Book_lefts => k_is)
    (case k_Book_lefts => k_is)
    (case a_Book_rights => k_is)
    (case i_Book_rights => k_is)
    (case l_Book_rights => k_is)
    (case c_Book_rights => k_is)
    (case k_Book_rights => k_is)
    (case a_law => k_is)
    (case l_law => k_is)
    (case c_law => k_is)
    (case k_law => k_is)

