import PyProof.Rows.All
import Wide.All
import OpenK.AllK
import Wide.FinOn
import OpenK.KMake
import HandS.ForMost
import HandS.Flow
import HandS.Wide
import HandS.IsInst
import HandS.Set
import HandS.SetFor
import HandS.Strs
import HandS.SortOrd
import HandS.SortRule
import HandS.SortInts
import PyProof.ListMulRoad
import HandS.List
import HandS.SortKw
import HandS.ExcCtx
import HandS.TryMany
import HandS.ExcInit
import HandS.ExcField
import HandS.RaiseMore
import HandS.WordsExc
import KE.DataEq
import KE.SortKeyHeap
import KE.KIsAll
import KE.KTryMore
import HandS.Base
import HandS.Call
import HandS.Exc
import HandS.ExcIs
import HandS.ExcOwn
import HandS.Deep
import HandS.Style
import HandS.TupLe
import HandS.TupAny
import HandS.Flt
import HandS.Codes
import HandS.JoinGen
import HandS.Iter
import HandS.Text
import HandS.Replace
import HandS.Dict
import HandS.Conv
import PyProof.ExcBaseAll.ValueError
import PySem.Challenge.RW_weirmark_k19_refusals_apart
set_option Elab.async false
set_option linter.all false
set_option maxRecDepth 100000
set_option maxHeartbeats 4000000

/-! Rules over the hand layer that it lacks: sets of ints made of lists, sorted, told in their number; an instance of a class without an own __init__. -/
namespace L2
open PySem PySem.Spec PyProof.Rows
section
variable {P : Program} {w : World} {A : Around} {E : Value → Shared → Prop} {s : Shared}
set_option maxRecDepth 100000 in
set_option maxHeartbeats 3200000 in
theorem call_set_listI {l : Addr} {items : Array Value} (ns : List Int) {Q : Value → Shared → Prop} (hh : A.handled = none) (hl : s.heap.IsList l items) (hit : IntsAre items.toList ns) (hb : ns.length + 1 < scanBound)
    (h : ∀ (h' : Heap) (tk c : Nat), SetR w h' s.heap.objs.size (fun j => decide (j ∈ ns)) c → c ≤ ns.length → (∀ b o, s.heap.get? b = some o → h'.get? b = some o) → Q (.ref s.heap.objs.size) { s with heap := h', toks := tk }) :
    wpAny (model P w) A (call (.type "set") [.ref l]) Q E s := by
  have hisz : items.size = ns.length := by
    have q := IntsAre.length hit
    rw [Array.length_toList] at q
    exact q
  obtain ⟨c, tl, hmro⟩ := F.called_set.mro
  have hmade := F.called_set.made
  have hsub := F.called_set.sub
  refine wpAny_call (codeAny_of_tree ?_)
  show wpAny _ _ (callAny (.type "set") _) _ _ _
  refine wpAny_pure ⟨Code.quiet_builtin _ (by decide +kernel), codeAny_builtin F.entry_type_call ?_⟩
  rw [Around.under_plain (weight_type_call_type "set" [.ref l] []) rfl]
  have h1 := F.called_set.notType
  have h2 := F.called_set.canCreate
  have hct := F.typeCall_set_1 (.ref l)
  repeat (any_goals (first | assumption | wp_step))

  refine codeAny_mono (code_set_led1 (.ref l) (E := E) (Q₁ := fun obj s₁ => obj = .ref s.heap.objs.size ∧ s₁ = { s with heap := s.heap.push { cls := .type "set", dict := none, data := .set #[] 0 (.fresh 0 0 (!w.params.followText "set-order")) } }) ⟨rfl, rfl⟩) fun r s₁ hr => ?_
  cases r with
  | error e => exact hr
  | ok fl =>
    cases fl with
    | ret obj =>
      obtain ⟨rfl, rfl⟩ := hr
      have hS : (s.heap.push { cls := .type "set", dict := none, data := .set #[] 0 (.fresh 0 0 (!w.params.followText "set-order")) }).get? s.heap.objs.size = some { cls := .type "set", dict := none, data := .set #[] 0 (.fresh 0 0 (!w.params.followText "set-order")) } := Heap.get?_push_size _ rfl
      have hT : Shared.TypeIs { s with heap := s.heap.push { cls := .type "set", dict := none, data := .set #[] 0 (.fresh 0 0 (!w.params.followText "set-order")) } } (.ref s.heap.objs.size) "set" := ⟨_, hS, rfl⟩
      have hli := F.called_set.init.lookup
      have hbi := F.called_set.init.bind (.ref s.heap.objs.size)
      repeat (any_goals (first | assumption | wp_step))

      refine codeAny_mono (codeAny_call_builtin (R := wants (fun r s₂ => r = .none ∧ ∃ h' tk c, s₂ = { s with heap := h', toks := tk } ∧ SetR w h' s.heap.objs.size (fun j => decide (j ∈ ns)) c ∧ c ≤ ns.length ∧
          (∀ b o, s.heap.get? b = some o → h'.get? b = some o)) E) F.called_set.init.plain F.entry_set_init (check_set_init_1 hT ?_)) fun r₂ s₂ hr₂ => ?_
      · obtain ⟨ol, hol, hcl, nl, hdl⟩ := hl
        obtain ⟨ocls, odict, odata, oslots⟩ := ol
        simp only at hcl hdl
        subst hcl; subst hdl
        have hol' : (s.heap.push { cls := .type "set", dict := none, data := .set #[] 0 (.fresh 0 0 (!w.params.followText "set-order")) }).get? l = some { cls := .type "list", dict := odict, data := .seq items nl, slots := oslots } := Heap.get?_push_of_some _ hol
        have hsls := F.sub_list_set
        have hslf := F.sub_list_frozenset
        have hne : (Value.type "list" == Value.type "dict") = false := by decide
        have hl1 : (s.heap.push { cls := .type "set", dict := none, data := .set #[] 0 (.fresh 0 0 (!w.params.followText "set-order")) }).IsList l items := ⟨_, hol', rfl, nl, rfl⟩
        unfold Builtin.«set.__init__» noKeywords Builtin.Frozenset.updateFrom
        generalize hPI : pyIter = PI
        wp_walk
        subst hPI

        refine wpAny_pyIter_list hl1 ?_
        refine wpAny_bind (wpAny_runValue ?_)
        have hlS : l < s.heap.objs.size := Heap.lt_size hol
        have hh3 : A.in1.in1.in1.handled = none := by simp [hh]
        have hz1 : (s.heap.push { cls := .type "set", dict := none, data := .set #[] 0 (.fresh 0 0 (!w.params.followText "set-order")) }).objs.size = s.heap.objs.size + 1 := Heap.size_push ..
        have hneI : l ≠ (s.heap.push { cls := .type "set", dict := none, data := .set #[] 0 (.fresh 0 0 (!w.params.followText "set-order")) }).objs.size := by
          rw [Heap.size_push]; exact Nat.ne_of_lt (Nat.lt_succ_of_lt hlS)
        have hSf : s.heap.objs.size ∉ [(s.heap.push { cls := .type "set", dict := none, data := .set #[] 0 (.fresh 0 0 (!w.params.followText "set-order")) }).objs.size, l] := by
          rw [Heap.size_push]; simp only [List.mem_cons, List.mem_singleton, List.not_mem_nil, or_false, not_or]
          exact ⟨Nat.ne_of_lt (Nat.lt_succ_self _), Nat.ne_of_gt hlS⟩
        have hval : ∀ (i : Nat) (v : Value), items[i]? = some v → ∃ k t, ns[i]? = some k ∧ v = .int k t := fun i v hv => by
          have hi : i < ns.length := by rw [← hisz]; exact (Array.getElem?_eq_some_iff.mp hv).1
          obtain ⟨t, e⟩ := PyProof.Rows.IntsAre.int_at hit i v (by rw [Array.getElem?_toList]; exact hv)
          refine ⟨ns[i], t, List.getElem?_eq_getElem hi, ?_⟩
          rw [e, List.getD_eq_getElem?_getD, List.getElem?_eq_getElem hi] <;> rfl
        refine set_update_ints ((Walks.list hh3 _ l hneI items).toS) s.heap.objs.size
          hSf ns hisz hb hval (items.size - 0) 0 _ (by omega) (Nat.zero_le _)
          ⟨⟨_, Heap.get?_push_size _ rfl, rfl, rfl⟩, (hl1.push _)⟩ ?hS0 ?hR
        case hS0 =>
          have hget : ((s.heap.push { cls := .type "set", dict := none, data := .set #[] 0 (.fresh 0 0 (!w.params.followText "set-order")) }).push { cls := .type "list_iterator", data := .fields #[.ref l, .int 0 0] }).get? s.heap.objs.size
              = some { cls := .type "set", dict := none, data := .set #[] 0 (.fresh 0 0 (!w.params.followText "set-order")) } := Heap.get?_push_of_some _ hS
          exact ⟨0, Nat.le_refl 0, setR_new_at hget⟩
        case hR =>
          intro s' c' hm hc' hS'
          obtain ⟨h', g2, d', tk', os'⟩ := s'
          have eg : g2 = s.gens := hm.gens
          have ed : d' = s.drawn := hm.drawn
          have eo : os' = s.os := hm.os
          subst eg; subst ed; subst eo
          show wpAny _ _ _ _ _ _
          refine wpAny_pure ?_
          show wpAny _ _ (ret Value.none) _ _ _
          rw [hisz] at hc'
          refine wpAny_pure ⟨rfl, h', tk', c', rfl, hS', hc', fun b o e => ?_⟩
          have hb0 : b < s.heap.objs.size := Heap.lt_size e
          have hb1 : b ≠ s.heap.objs.size := Nat.ne_of_lt hb0
          have hb2 : b ≠ (s.heap.push { cls := .type "set", dict := none, data := .set #[] 0 (.fresh 0 0 (!w.params.followText "set-order")) }).objs.size := by
            rw [Heap.size_push]; exact Nat.ne_of_lt (Nat.lt_succ_of_lt hb0)
          exact hm.heap b o (by simp only [List.mem_cons, List.mem_singleton, List.not_mem_nil, or_false, not_or]; exact ⟨hb1, hb2⟩) (Heap.get?_push_of_some _ (Heap.get?_push_of_some _ e))

      · cases r₂ with
        | error e => exact hr₂
        | ok fl₂ =>
          cases fl₂ with
          | ret r =>
            obtain ⟨rfl, h', tk, c', rfl, hS', hc', hk'⟩ := hr₂
            repeat (any_goals (first | assumption | wp_step))
            exact h _ _ _ hS' hc' hk'
          | _ => exact hr₂.elim
    | _ => exact hr.elim

/-- sorted of a set of ints, any number of them -/
theorem sorted_setO {a : Addr} {S : Int → Bool} {n : Nat} {Q : Value → Shared → Prop} (R : SetR w s.heap a S n) (hh : A.handled = none)
    (hQ : ∀ s' p (out : Array Value) (c : Nat) (ns : List Int), (∀ b o, s.heap.get? b = some o → s'.heap.get? b = some o) → s'.gens = s.gens → s'.os = s.os → s.heap.objs.size ≤ p →
      s'.heap.get? p = some (seqObj "list" out c) → IntsAre out.toList ns → ns.Nodup → ns.Pairwise (· ≤ ·) → (∀ k, k ∈ ns ↔ S k = true) → ns.length = n → Q (.ref p) s') :
    wpAny (model P w) A (call (.builtin "sorted") [.ref a]) Q E s := by
  obtain ⟨o, es, ep, t, ho, hex, hd, g, nd, hm, hb, hf, hn, hr, hl⟩ := R
  refine Calls.call_function_entry kind_sorted plain_sorted entry_sorted (args_sorted1 _) ?_
  unfold Builtin.«sorted»
  refine wpAny_bind (m := checkCount "sorted" 1 1 _) (wpAny_pure ?_)
  refine wpAny_bind (collect_set (A := A.in1) hh ⟨o, ho, hex.1, hd⟩ hf hb hr hl fun s1 vs k1 hz g1 o1 pm => ?_)
  have hvl : vs.length = n := by rw [pm.length_eq, List.length_map, Array.length_toList]; exact hn
  have hI : IntsAre vs (vs.map Builtin.Re.reRawOf) := ints_of vs fun v hv => by
    obtain ⟨e, he, q⟩ := List.mem_map.mp (pm.mem_iff.mp hv)
    obtain ⟨k, tk, h1, _⟩ := g e he
    exact ⟨k, tk, by rw [← q]; exact h1⟩
  have pk : (vs.map Builtin.Re.reRawOf).Perm (es.toList.map keyOf) := by
    have q := pm.map Builtin.Re.reRawOf
    rw [List.map_map] at q
    exact q
  have hz2 : vs.length ≤ sizeLine := by
    rw [hvl, ← hn]
    exact fits_of_scanBound hb
  refine wpAny_bind (wpAny_newList ?_ hz2)
  have hoL : (s1.heap.push (seqObj "list" vs.toArray 0)).get? s1.heap.objs.size = some (seqObj "list" vs.toArray 0) := Heap.get?_push_size _ rfl
  refine wpAny_bind (wpAny_holding (wpAny_call_entry slot_list_sort ⟨_, hoL, rfl⟩ entry_list_sort (SrtO.list_sort_ord SrtO.swo_int hoL hz2 (fun h2 => SrtO.ints_sortable hI h2) fun out h1 h2 => ⟨_, rfl, ?_⟩) (args_list_sort _)))
  obtain ⟨a1, a2, a3⟩ := SrtO.ints_out hI h1 h2
  obtain ⟨c, hc⟩ := sortedHeap_at (vs := vs) (out := out.toArray) hoL
  have pn : (out.map SrtO.iv).Perm (es.toList.map keyOf) := a2.trans pk
  refine wpAny_pure ⟨_, rfl, hQ _ s1.heap.objs.size out.toArray c (out.map SrtO.iv) (fun b u e => ?_) g1 o1 hz hc (by simpa using a1) (pn.nodup_iff.mpr nd) a3 (fun k => by rw [pn.mem_iff, ← hm k]) ?_⟩
  · have q := k1 b u e
    have hlt := Heap.lt_size q
    show (sortedHeap (s1.heap.push (seqObj "list" vs.toArray 0)) s1.heap.objs.size vs out.toArray).get? b = some u
    rw [sortedHeap_old (Nat.ne_of_lt hlt) (by rw [size_push']; exact Nat.lt_succ_of_lt hlt)]
    exact Heap.get?_push_of_some _ q
  · rw [pn.length_eq, List.length_map, Array.length_toList]; exact hn
end

section
variable {X : Cx}
/-- set(xs), a list or tuple of ints -/
def rSetI (K : PySem.W.Frag) (w : World) : List V → Hp → VK → Prop := fun vs H Q => ∃ (a : Addr) (ns : List Int), vs = [V.ref a] ∧ (SqL K H a (ns.map V.int) ∨ SqT K H a (ns.map V.int)) ∧ ns.length ≤ 1000 ∧
  ∀ p n, H p = none → Q (.ref p) (upd H p (SetO w p (fun j => decide (j ∈ ns)) n))
theorem cr_setI (hc : X.calm = true) : CallR X (.type "set") (rSetI X.K X.w) := by
  intro pins s σ H vs us Q I r h
  obtain ⟨a, ns, rfl, hq, hl, q⟩ := h
  rw [Vals.ref1 r]
  have hd := I.ok.hd hc
  have fin : ∀ (h' : Heap) (tk c : Nat), SetR X.w h' s.heap.objs.size (fun j => decide (j ∈ ns)) c → c ≤ ns.length → (∀ b o, s.heap.get? b = some o → h'.get? b = some o) → EP X pins σ Q (.ref s.heap.objs.size) { s with heap := h', toks := tk } := fun h' tk c R _ k =>
    ⟨.ref _, upd H s.heap.objs.size (SetO X.w s.heap.objs.size (fun j => decide (j ∈ ns)) c), I.laid (t' := tk) k (Nat.le_refl _) (setO_new R), rfl, q _ _ (I.hok.fresh (Nat.le_refl _))⟩
  rcases hq with hq | hq
  · obtain ⟨its, rv, pl, hz⟩ := I.list hq
    exact call_set_listI ns hd pl.isList (by simpa using rv.ints) (by unfold scanBound; omega) fin
  · obtain ⟨its, rv, pl, hz⟩ := I.tuple hq
    exact call_set_tupI ns hd (show s.heap.IsTuple a its.toArray from pl) (by simpa using rv.ints) (by unfold scanBound; omega) fin
/-- len(found): as many as any list of its members without doubles has -/
def rLenSet (w : World) : List V → Hp → VK → Prop := fun vs H Q => ∃ (a : Addr) (S : Int → Bool) (n : Nat) (ms : List Int), vs = [V.ref a] ∧ H a = some (SetO w a S n) ∧ ms.Nodup ∧ (∀ k, k ∈ ms ↔ S k = true) ∧ Q (.int ms.length) H
theorem cr_lenSet : CallR X (.builtin "len") (rLenSet X.w) := by
  intro pins s σ H vs us Q I r h
  obtain ⟨a, S, n, ms, rfl, ha, hn, hm, q⟩ := h
  rw [Vals.ref1 r]
  obtain ⟨o, es, ep, t, ho, hex, hd, g, nd, hm2, hb, hf, hn2, hr, hl⟩ := setO_get I ha
  have e : es.size = ms.length := by
    have p : (es.toList.map keyOf).Perm ms := (List.perm_ext_iff_of_nodup nd hn).mpr fun k => by rw [hm k, hm2 k]
    have := p.length_eq
    rw [List.length_map, Array.length_toList] at this
    exact this
  refine call_len_set ho hex hd hf (by unfold scanBound at hb; omega) ⟨.int ms.length, H, I.tok _, ⟨_, by rw [e]⟩, q⟩
/-- sorted(found) -/
def rSortedSetO (w : World) : List V → Hp → VK → Prop := fun vs H Q => ∃ (a : Addr) (S : Int → Bool) (n : Nat), vs = [V.ref a] ∧ H a = some (SetO w a S n) ∧
  ∀ (ns : List Int) (p : Addr), ns.Nodup → ns.Pairwise (· ≤ ·) → (∀ k : Int, k ∈ ns ↔ S k = true) → H p = none → Q (.ref p) (upd H p (.lst (ns.map V.int)))
theorem cr_sortedSetO (hc : X.calm = true) : CallR X (.builtin "sorted") (rSortedSetO X.w) := by
  intro pins s σ H vs us Q I r h
  obtain ⟨a, S, n, rfl, ha, q⟩ := h
  have R := setO_get I ha
  rw [Vals.ref1 r]
  refine sorted_setO R (I.ok.hd hc) fun s' p out c ns k g o hp hg hi hnd hs hm hl => ?_
  have hz : n ≤ sizeLine := by
    obtain ⟨o, es, ep, t, ho, hex, hd, g, nd, hm2, hb, hf, hn2, hr, hl⟩ := R
    rw [← hn2]
    exact fits_of_scanBound hb
  have hlen : (ns.map V.int).length ≤ sizeLine := by rw [List.length_map, hl]; exact hz
  have hn : H p = none := I.hok.fresh hp
  have J : Inv X pins σ (upd H p (.lst (ns.map V.int))) { s with heap := s'.heap, gens := s'.gens, drawn := s'.drawn, toks := s'.toks } :=
    I.call (ch := []) (Un.laid k hp hn) (I.hok.laid k hp ⟨hlen, out.toList, c, vals_of_ints hi, hg⟩) (by rw [g]; exact I.bare) (fun _ z => nomatch z)
  have e : s' = { s with heap := s'.heap, gens := s'.gens, drawn := s'.drawn, toks := s'.toks } := by
    cases s'
    cases s
    cases o
    rfl
  rw [e]
  exact ⟨.ref p, _, J, rfl, q ns p hnd hs hm hn⟩
end

/-! ### sorted of pairs of ints, wherever they stand -/
def rSortedPT (K : PySem.W.Frag) : List V → Hp → VK → Prop := fun vs H Q => ∃ (a : Addr) (xs : List V) (k : V → Int × Int), vs = [V.ref a] ∧ SqL K H a xs ∧ (∀ x ∈ xs, ∃ t, x = V.ref t ∧ SqT K H t [.int (k x).1, .int (k x).2]) ∧
  ∀ ys p, SrtO.Srtd (ltP k) ys → SrtO.Stb (ltP k) ys xs → H p = none → Q (.ref p) (upd H p (.lst ys))
section
variable {X : Cx}
theorem cr_sortedPT : CallR X (.builtin "sorted") (rSortedPT X.K) := by
  intro pins s σ H vs us Q I r h
  obtain ⟨a, xs, k, rfl, hs, hx, q⟩ := h
  obtain ⟨its, rv, hl, hz⟩ := I.list hs
  obtain ⟨u, rfl, ru⟩ := vals1 r
  obtain rfl : u = Value.ref a := ru
  obtain ⟨e1, e2⟩ := refs_back rv fun x m => by
    obtain ⟨t, e, _⟩ := hx x m
    exact ⟨t, e⟩
  refine SrtO.sorted_pairsO (k := fun u => k (backV u)) hl.isList (by rw [← rv.length]; exact hz) (fun v hv => ?_) fun h' d out h1 h2 kp hd hn => ?_
  · obtain ⟨t, rfl⟩ := e2 v hv
    have hm : V.ref t ∈ xs := by rw [e1]; exact List.mem_map.mpr ⟨_, hv, rfl⟩
    obtain ⟨t', e, ht⟩ := hx _ hm
    cases e
    obtain ⟨its2, r2, ⟨o, ho, hc, n, hd⟩, _⟩ := I.tuple ht
    obtain ⟨u1, u2, rfl, ri, rj⟩ := vals2 r2
    obtain ⟨t1, rfl⟩ := ri
    obtain ⟨t2, rfl⟩ := rj
    exact ⟨t, o, t1, t2, n, rfl, ho, hc, hd⟩
  · have h3 : ∀ u ∈ out, ∃ a, u = Value.ref a := fun u hu => e2 u (h2.perm.mem_iff.mp hu)
    obtain ⟨n, hn⟩ := hn
    have hb : SrtO.Stb (ltP k) (out.map backV) xs := by
      rw [e1]
      exact SrtO.Stb.map (ltP_swo k) backV h2
    refine ⟨.ref d, upd H d (.lst (out.map backV)), I.laid (t' := s.toks) kp hd ⟨?_, out, n, vals_back h3, hn⟩, rfl, q _ d (SrtO.srtd_map h1) hb (I.hok.fresh hd)⟩
    rw [hb.len]
    exact hz
end

/-! ### an instance of a class that has no __init__ but object's -/
structure Mk0 (K : PySem.W.Frag) (C : Addr) : Prop where
  makes : PySem.W.makesIn K C = true
  init : PySem.W.findIn K (.ref C) "__init__" = some (some (.builtin "object.__init__"))
  kp : PySem.W.keepIn K (.ref C) = true
section
variable {X : Cx} {C : Addr}
theorem run_make0 {pins : List (Addr × Obj)} {σ : St} {H : Hp} {s : Shared} {Q : VK} (M : Mk0 X.K C) (I : Inv X pins σ H s)
    (h : ∀ x dx, H x = none → H dx = none → dx ≠ x → Q (.ref x) (upd (upd H dx (.own x)) x (.ins C dx []))) :
    wpAny (model X.prog X.w) X.A (call (.ref C) []) (EP X pins σ Q) X.xe s := by
  have hq := h (s.heap.objs.size + 1) s.heap.objs.size (I.hok.fresh (Nat.le_succ _)) (I.hok.fresh (Nat.le_refl _)) (Nat.ne_of_lt (Nat.lt_succ_self _))
  have I2 := Inv.made (C := C) I
  have Y := PySem.W.makes_of (M := model X.prog X.w) I.kIn M.makes
  have e2 : ((s.heap.push PySem.W.emptyDict).push (PySem.W.instObj C s.heap.objs.size)).get? (s.heap.objs.size + 1) = some (PySem.W.instObj C s.heap.objs.size) := by
    have := Heap.get?_push_size (s.heap.push PySem.W.emptyDict) (o := PySem.W.instObj C s.heap.objs.size) rfl
    rwa [Heap.size_push] at this
  have t1 : PySem.W.Looks (model X.prog X.w) ((s.heap.push PySem.W.emptyDict).push (PySem.W.instObj C s.heap.objs.size)) (typeOf (.ref (s.heap.objs.size + 1))) (.ref C) := (PySem.W.Looks.ld e2).andThen .now
  have t2 : PySem.W.Looks (model X.prog X.w) ((s.heap.push PySem.W.emptyDict).push (PySem.W.instObj C s.heap.objs.size)) (isInstance (.ref (s.heap.objs.size + 1)) (.type "object")) true := t1.andThen (Y.top.keeps fun b o e => Heap.get?_push_of_some _ (Heap.get?_push_of_some _ e))
  refine wpAny_call (make_map0 I.kIn M.makes M.init (fun self => PySem.W.Looks.of_pure (PySem.W.oi_bind self)) ?_)
  refine codeAny_call_builtin PySem.W.oi_plain PySem.W.entry_oi (@PySem.W.check_slot (model X.prog X.w) _ _ _ "object.__init__" "object" "__init__" (.ref (s.heap.objs.size + 1)) [] [] _ PySem.W.oi_kind PySem.W.oi_split t2 (PySem.W.oi_args (.ref (s.heap.objs.size + 1))) ?_)
  rw [PySem.W.oi_run]
  exact wpAny_pure (And.intro rfl ⟨.ref _, _, I2, rfl, hq⟩)
theorem pe_new00 {x : Str} {p pos : Pos} (M : Mk0 X.K C) (hg : Gl X x) (hm : X.mg x = some (.ref C)) (hdb : (x == ("__debug__" : Str)) = false) :
    PE X (.Call (.Name x p) [] [] pos) (fun _ H Q => ∀ y dx, H y = none → H dx = none → dx ≠ y → Q (.ref y) (upd (upd H dx (.own y)) y (.ins C dx []))) := by
  refine ⟨fun pins s σ H Q I h => ?_⟩
  refine wpAny_Call_Name_kw (ld_glob I hg hm ?_ hdb)
  exact PySem.W.callWith_K0 I.kIn M.kp (run_make0 M I h)
end

/-! ### a method of whatever class the instance is of -/
theorem wpAny_Call_methV {prog : Program} {w : World} {A : Around} {E : Value → Shared → Prop} {s : Shared} {env : Env} {o : Expr} {name : Str} {apos pos : Pos} {args : List Expr} {Q : Value → Shared → Prop}
    (hbase : attributeBase o name env (eval o env) = eval o env)
    (hfew : ((backTo pos (starEach args env)).all (fun x => !x.1) && (backToKw pos (keywordEach [] env)).all (fun x => x.1.isSome)
      && decide (args.length + ([] : List Keyword).length + (if ([] : List Keyword).isEmpty then 0 else 1) < 30)) = true)
    (hline : (apos.endLine == pos.line) = true)
    (h : wpAny (model prog w) A (eval o env) (fun ov s₁ => ∀ pl : Sem Bool, wpAny (model prog w) A (getMethod ov name pl) (fun fx s₂ => wpAny (model prog w) A (callWith pos fx.1 fx.2 (backTo pos (starEach args env)) (backToKw pos (keywordEach [] env))) Q E s₂) E s₁) E s) :
    wpAny (model prog w) A (eval (.Call (.Attribute o name apos) args [] pos) env) Q E s := by
  rw [arm_eval_Call, hbase]
  refine wpAny_bind (wpAny_mono h (fun ov s₁ h₁ => ?_) fun _ _ e => e)
  refine wpAny_bind (wpAny_standAt ?_)
  have hform : methodCallForm (args.length + ([] : List Keyword).length) (backTo pos (starEach args env)) (backToKw pos (keywordEach [] env)) = true := hfew
  have hpos : methodCallPos true o env apos pos = pure pos := by unfold methodCallPos; simp [hline]
  unfold methodCall
  rw [hform]
  refine wpAny_bind (wpAny_holding (wpAny_mono (h₁ _) (fun fx s₂ h₂ => ?_) fun _ _ e => e))
  obtain ⟨f, first⟩ := fx
  exact wpAny_bind (wpAny_of_eq hpos h₂)
section
variable {X : Cx} {k : Nat} {m : Str} {o e : Expr} {es : List Expr} {ta : TE} {t : TA} {apos pos : Pos}
/-- o.m(..): the class is the instance's own -/
def tMethD (X : Cx) (k : Nat) (m : Str) (ta : TE) (t : TA) : TE := fun σ H Q => ta σ H fun x H1 => ∃ a C dx fs f fd ps sp, x = .ref a ∧ H1 a = some (.ins C dx fs) ∧ fs.lookup m = none ∧ Cls X.K C ∧ Meth X.K C m f ∧
  FnOk X.prog X.w X.K X.mg X.base CX0 k f fd ps sp ∧ Binds X.K fd ps [] ∧ t σ H1 fun vs H2 => sp (x :: vs) H2 Q E0
theorem pe_methD (he : PE X o ta) (hr : Room k X.A) (ha : PA X (e :: es) t) (hbase : attributeBase o m X.env (eval o X.env) = eval o X.env)
    (hfew : ((backTo pos (starEach (e :: es) X.env)).all (fun x => !x.1) && (backToKw pos (keywordEach [] X.env)).all (fun x => x.1.isSome)
      && decide ((e :: es).length + ([] : List Keyword).length + (if ([] : List Keyword).isEmpty then 0 else 1) < 30)) = true)
    (hline : (apos.endLine == pos.line) = true) (hst : starEach (e :: es) X.env = (false, eval e X.env) :: starEach es X.env) (hpl : (backTo pos (starEach es X.env)).any (·.1) = false) :
    PE X (.Call (.Attribute o m apos) (e :: es) [] pos) (tMethD X k m ta t) := by
  refine ⟨fun pins s σ H Q I h => ?_⟩
  refine wpAny_Call_methV hbase hfew hline (thn (he.run pins s σ H _ I h) fun u s1 ⟨x, H1, I1, rx, q⟩ pl => ?_)
  obtain ⟨a, C, dx, fs, f, fd, ps, sp, ex, ea, l, c, hm, F, hb, q⟩ := q
  subst ex
  obtain rfl : u = Value.ref a := rx
  refine getmeth_ok I1 ea c hm l ?_
  refine PySem.W.callWith_K (first := [.ref a]) (h₀ := X.base) I.ok.mod.kin hm.kp (thn (ha.run pos pins s1 σ H1 _ I1 q) fun us s2 ⟨vs, H2, I2, r, q2⟩ => ⟨I2.kIn, ?_⟩) hst hpl
  exact run_fn (us := .ref a :: us) (vs := .ref a :: vs) F hr hb .nil pass0 I2 (.cons rfl r) (by rw [List.append_nil]; exact q2)
theorem pe_methD0 (he : PE X o ta) (hr : Room k X.A) (hbase : attributeBase o m X.env (eval o X.env) = eval o X.env) (hline : (apos.endLine == pos.line) = true) :
    PE X (.Call (.Attribute o m apos) [] [] pos) (tMethD X k m ta tNil) := by
  refine ⟨fun pins s σ H Q I h => ?_⟩
  refine wpAny_Call_methV hbase rfl hline (thn (he.run pins s σ H _ I h) fun u s1 ⟨x, H1, I1, rx, q⟩ pl => ?_)
  obtain ⟨a, C, dx, fs, f, fd, ps, sp, ex, ea, l, c, hm, F, hb, q⟩ := q
  subst ex
  obtain rfl : u = Value.ref a := rx
  refine getmeth_ok I1 ea c hm l ?_
  exact PySem.W.callWith_K0 (first := [.ref a]) I1.kIn hm.kp (run_fn (us := [.ref a]) (vs := [.ref a]) F hr hb .nil pass0 I1 (.cons rfl .nil) q)
end

/-- what isinstance asks of an own class -/
structure InsT (K : PySem.W.Frag) (C : Addr) : Prop where
  cl : Cls K C
  ha : PySem.W.findIn K (.ref C) "__class__" = some (some (.builtin "object.__class__"))
  hn : PySem.W.specialIn K (.builtin "object.__class__") "__get__" = some (some (.builtin "getset_descriptor.__get__"))
  htk : PySem.W.takesIn K (.builtin "object.__class__") = some true
  hm : PySem.W.mroIn K C (.type "object") = some true
theorem InsT.ty {K : PySem.W.Frag} {C a dx : Addr} {fs : List (Str × V)} {H : Hp} (c : InsT K C) (e : H a = some (.ins C dx fs)) : TyX K H (.ref a) (.ref C) := .base (.ins e c.cl c.ha c.hn c.htk c.hm)

/-! ### sorted of pairs of ints, as pairs of item and its ints -/
def rSortedPL (K : PySem.W.Frag) : List V → Hp → VK → Prop := fun vs H Q => ∃ (a : Addr) (zs : List (V × (Int × Int))), vs = [V.ref a] ∧ SqL K H a (zs.map (·.1)) ∧ (∀ z ∈ zs, ∃ t, z.1 = V.ref t ∧ SqT K H t [.int z.2.1, .int z.2.2]) ∧
  ∀ (ys : List (V × (Int × Int))) (p : Addr), ys.Perm zs → ys.Pairwise (fun y z => SrtO.lexB z.2 y.2 = false) → H p = none → Q (.ref p) (upd H p (.lst (ys.map (·.1))))
theorem cr_sortedPL {X : Cx} : CallR X (.builtin "sorted") (rSortedPL X.K) := by
  intro pins s σ H vs us Q I r h
  obtain ⟨a, zs, rfl, hs, hx, q⟩ := h
  have uni : ∀ z ∈ zs, ∀ z' ∈ zs, z.1 = z'.1 → z.2 = z'.2 := fun z hz z' hz' e => by
    obtain ⟨t, e1, h1⟩ := hx z hz
    obtain ⟨t', e1', h1'⟩ := hx z' hz'
    rw [e1, e1'] at e
    cases e
    have := I.tuple_inj h1 h1'
    injection this with a1 a2
    injection a2 with a2 _
    exact Prod.ext (V.int.inj a1) (V.int.inj a2)
  classical
  let k : V → Int × Int := fun v => if h : ∃ z ∈ zs, z.1 = v then (Classical.choose h).2 else (0, 0)
  have kz : ∀ z ∈ zs, k z.1 = z.2 := fun z hz => by
    have h : ∃ z' ∈ zs, z'.1 = z.1 := ⟨z, hz, rfl⟩
    show (if h : ∃ z' ∈ zs, z'.1 = z.1 then (Classical.choose h).2 else (0, 0)) = _
    rw [dif_pos h]
    obtain ⟨h1, h2⟩ := Classical.choose_spec h
    exact uni _ h1 _ hz h2
  refine cr_sortedPT pins s σ H [V.ref a] us Q I r ⟨a, zs.map (·.1), k, rfl, hs, fun x hm => ?_, fun ys p h1 h2 hp => ?_⟩
  · obtain ⟨z, hz, rfl⟩ := List.mem_map.mp hm
    obtain ⟨t, e, h1⟩ := hx z hz
    exact ⟨t, e, by rw [kz z hz]; exact h1⟩
  · have e1 : (ys.map fun v => (v, k v)).map (·.1) = ys := by
      rw [List.map_map]
      exact List.map_id' _
    have e2 : zs = (zs.map (·.1)).map fun v => (v, k v) := by
      rw [List.map_map]
      conv => lhs; rw [← List.map_id zs]
      refine List.map_congr_left fun z hz => ?_
      show z = (z.1, k z.1)
      rw [kz z hz]
    have := q (ys.map fun v => (v, k v)) p (by rw [e2]; exact h2.perm.map _) (List.pairwise_map.mpr (h1.imp fun h => h)) hp
    rw [e1] at this
    exact this

/-! ### a list times an int, wherever the list stands -/
theorem int_rmul_listW (a : Int) (t : Tok) (l : Addr) (items : Array Value) (n : Nat) (dd : Option Addr) (sl : Array (Option Value)) :
    Meets (Builtin.«int.__rmul__» ⟨[.int a t, .ref l], []⟩) (fun _ R s => s.heap.get? l = some { cls := .type "list", dict := dd, data := .seq items n, slots := sl } ∧ R (.ok (.ret Value.notImplemented)) s) :=
  .of_wp fun prog w A R s h => by obtain ⟨hp, g, d, tk, os⟩ := s; obtain ⟨hl, h⟩ := h; wp_walk using wpAny_loadPart' hl; exact ⟨_, rfl, h⟩
theorem list_mulW (l : Addr) (items : Array Value) (n : Nat) (dd : Option Addr) (sl : Array (Option Value)) (x : Int) (u : Tok) (hc0 : ¬(!Builtin.List.listFitsIndex x) = true) (hc1 : ¬items.size * x.toNat > (2 ^ 63 - 1) / 8) (hc2 : ¬Builtin.List.listTooLong (items.size * x.toNat) = true) :
    Meets (Builtin.«list.__mul__» ⟨[.ref l, .int x u], []⟩) (fun _ R s => s.heap.get? l = some { cls := .type "list", dict := dd, data := .seq items n, slots := sl } ∧ R (.ok (.ret (Value.ref s.heap.objs.size))) { s with heap := s.heap.push { cls := Value.type "list", data := Data.seq (List.foldl (fun x1 x2 => x1 ++ x2) #[] (List.replicate (if items.isEmpty = true then 0 else x.toNat) items)) }, toks := s.toks }) :=
  .of_wp fun prog w A R s h => by
    obtain ⟨hp, g, d, tk, os⟩ := s; obtain ⟨hl, h⟩ := h
    have hsz := PySem.AutoListH.joined_fits hc2
    wp_walk using wpAny_loadPart' hl; refine wpAny_ite_false (decide_eq_false (Nat.not_lt.mpr hsz)) ?_; wp_walk using wpAny_loadPart' hl; exact ⟨_, rfl, h⟩
def rRepLs (K : PySem.W.Frag) : R2 := fun x y H Q => ∃ l k xs, x = .ref l ∧ y = .int k ∧ SqL K H l xs ∧ -(2 ^ 63) ≤ k ∧ k < 2 ^ 63 ∧ xs.length * k.toNat ≤ sizeLine ∧
  ∀ p, H p = none → Q (.ref p) (upd H p (.lst (List.replicate k.toNat xs).flatten))
theorem op_repLs {X : Cx} : OpR X (binaryOp .Mult) (rRepLs X.K) := by
  intro pins s σ H x y v u Q I rx ry h
  obtain ⟨l, k, xs, rfl, rfl, hH, h1, h2, hz, q⟩ := h
  cases rx
  obtain ⟨t, rfl⟩ := ry
  obtain ⟨its, r, ⟨⟨cls, dd, data, sl⟩, n, e, hc, _, hd⟩, _⟩ := I.list hH
  simp only at hc hd
  subst hc hd
  have hl : xs.length = its.length := r.length
  have hlen : its.toArray.size * k.toNat ≤ sizeLine := by rw [List.size_toArray, ← hl]; exact hz
  have hcap : ¬ its.toArray.size * k.toNat > (2 ^ 63 - 1) / 8 := by
    have : (sizeLine : Nat) ≤ (2 ^ 63 - 1) / 8 := by decide
    omega
  have hfit : ¬ (!Builtin.List.listFitsIndex k) = true := by
    rw [fitsIndex_both h1 h2]
    exact Bool.false_ne_true
  have hlong : ¬ Builtin.List.listTooLong (its.toArray.size * k.toNat) = true := by
    rw [notLongL hlen]
    exact Bool.false_ne_true
  have hnew : List.foldl (fun x1 x2 => x1 ++ x2) #[] (List.replicate (if its.toArray.isEmpty = true then 0 else k.toNat) its.toArray) = (List.replicate k.toNat its).flatten.toArray := by
    have f0 : ∀ m : Nat, List.foldl (fun x1 x2 => x1 ++ x2) #[] (List.replicate m its.toArray) = (List.replicate m its).flatten.toArray := fun m => by
      have := foldl_rep its m []
      rw [List.nil_append] at this
      exact this
    rw [f0]
    cases its with
    | nil => simp
    | cons a r' => rw [if_neg (by simp)]
  refine wpAny_binaryOp_repeat_ref (T := "list") (U := "int") (by decide) ⟨_, e, rfl⟩ (fun s' => typeIs_int s' k t) noFill_list_mul F.fills_int_mul F.slot_int_rmul repeat_list F.slot_int_index.lookup
    (call_meets F.slot_int_rmul (typeIs_int s k t) F.entry_int_rmul (F.args_int_rmul_2 _ _) (int_rmul_listW k t l its.toArray n dd sl)
      ⟨e, rfl, ⟨_, e, rfl⟩, call_meets F.slot_list_mul ⟨_, e, rfl⟩ F.entry_list_mul (F.args_list_mul_2 _ _) (list_mulW l its.toArray n dd sl k t hfit hcap hlong) ⟨e, ?_⟩⟩)
  rw [hnew]
  exact ⟨.ref _, _, I.lnew (t' := s.toks) (r.rep k.toNat) (by rw [PyProof.Rows.lm_len_rep_flat, Nat.mul_comm]; exact hz), rfl, q _ I.fresh⟩

/-- isinstance of an own class, of an instance of a class below it -/
theorem kit_own {K : PySem.W.Frag} {C D : Addr} (h1 : PySem.W.typeIn K (.ref D) = some (.type "type")) (h2 : PySem.W.mroIn K D (.type "object") = some true) (h3 : PySem.W.mroIn K C (.ref D) = some true) : PySem.W.kitOne K (.ref C) (.ref D) = some true := by
  unfold PySem.W.kitOne
  split
  · rfl
  · obtain ⟨cd, e, _⟩ := Option.bind_eq_some_iff.mp h2
    unfold PySem.W.kitCls
    dsimp only
    rw [if_pos (by rw [e, h1]; simp)]
    exact h3
/-! ### min(xs, default=k), max(xs, default=k) -/
theorem call_tree_kw {prog : Program} {w : World} {A : Around} {E : Value → Shared → Prop} {s : Shared} {id : String} {b : Builtin} {args : List Value} {kw : List (Str × Value)} {Q : Value → Shared → Prop} (hk : builtinKind id = none) (hp : plainId id = true)
    (hb : entryFor table id = some b) (ha : argsOk id ⟨args, kw⟩)
    (hc : wpAny (model prog w) A.in1 (b ⟨args, kw⟩) (fun fin s' => match fin with
      | .done f => (match (Except.ok f : Result) with | .ok (.ret v) => Q v s' | .ok _ => False | .error e => E e s')
      | .again c' => c'.quiet = true ∧ codeAny (model prog w) A c' (fun r s' => match r with | .ok (.ret v) => Q v s' | .ok _ => False | .error e => E e s') s') E s) :
    wpAny (model prog w) A (call (.builtin id) args kw) Q E s := by
  refine wpAny_call (codeAny_call_builtin hp hb ?_)
  simp only [checkBuiltinCall, hk]
  cases hsig : Manifest.signature? id with
  | none => exact wpAny_pure hc
  | some sig =>
    have ha' : Bind.checkArgs id sig ⟨args, kw⟩ = pure () := by simpa only [argsOk, hsig] using ha
    simp only [ha']
    exact wpAny_pure hc

section
variable {prog : Program} {w : World} {A : Around} {R : Result → Shared → Prop} {I : Addr} {fp wr : List Addr} {n : Nat} {T : Nat → Value → Prop} {St : Nat → Heap → Prop} {kd : Str} {d : Value}
theorem args_mind (a v : Value) : argsOk "min" ⟨[a], [(Str.ofString "default", v)]⟩ := by unfold argsOk; kernel_rfl
theorem mind_go (W : Walks prog w A.in1 I fp wr n T St) (bt : Nat → Nat → Bool) (hc : CmpOf prog w A.in1 .Lt T bt) (S : Addr) (hS : S ∉ fp) :
    ∀ (k j : Nat) (s : Shared) (b : Value) (e : Nat), n - (j + 1) = k → j + 1 ≤ n → St (j + 1) s.heap → T (argBest bt j) b →
    s.heap.get? S = some { cls := .type "list", dict := none, data := .seq #[b, b] e, slots := #[] } →
    (∀ v h' tk, T (argBest bt (n - 1)) v → (∀ b o, b ∉ wr → b ≠ S → s.heap.get? b = some o → h'.get? b = some o) → R (.ok (.ret v)) { s with heap := h', toks := tk }) →
    codeAny (model prog w) A (.builtin "min.loop" ⟨[.ref I, .none, .ref S], [(kd, d)]⟩) R s := by
  have hSw : S ∉ wr := fun h => hS (W.sub _ h)
  have nm : (toString "min" ++ toString ".loop" : String) = "min.loop" := by decide
  intro k
  induction k with
  | zero =>
    intro j s b e hk hj hst hb hs hR
    have hin : j + 1 = n := by omega
    refine codeAny_builtin F.entry_min_loop ?_
    rw [Around.under_plainId F.plain_min_loop _]
    show wpAny _ A.in1 (seqItems? (.ref S) >>= _) _ _ s
    refine wpAny_bind (wpAny_seqItems hs rfl ?_)
    show wpAny _ A.in1 (tryCatch (pyNext (.ref I)) _ >>= _) _ _ s
    refine wpAny_bind (wpAny_tryCatch (W.done s _ _ (hin ▸ hst) fun h' tk kp => ?_))
    have hs' := kp S _ hSw hs
    show wpAny _ A.in1 (updateSeq S (fun _ => #[]) >>= _) _ _ _
    refine wpAny_bind (wpAny_updateSeq hs' rfl (wpAny_bind (wpAny_letGo (wpAny_pure ?_))))
    exact hR b _ tk (by rw [← hin]; exact hb) fun c o h1 h2 h3 => (Heap.get?_update_other _ _ (Ne.symm h2)).trans (kp c o h1 h3)
  | succ k ih =>
    intro j s b e hk hj hst hb hs hR
    have hlt : j + 1 < n := by omega
    refine codeAny_builtin F.entry_min_loop ?_
    rw [Around.under_plainId F.plain_min_loop _]
    show wpAny _ A.in1 (seqItems? (.ref S) >>= _) _ _ s
    refine wpAny_bind (wpAny_seqItems hs rfl ?_)
    show wpAny _ A.in1 (tryCatch (pyNext (.ref I)) _ >>= _) _ _ s
    refine wpAny_bind (wpAny_tryCatch (W.item (j + 1) s _ _ hlt hst fun v h' tk hv hst' kp => ?_))
    have hs' := kp S _ hSw hs
    show wpAny _ A.in1 (tryCatch (holding [v, v] (richCompare .Lt v b >>= _)) _ >>= _) _ _ _
    refine wpAny_bind (wpAny_tryCatch (wpAny_holding (wpAny_bind (hc (j + 1) (argBest bt j) v b _ _ _ hv hb ?_))))
    refine wpAny_bind (wpAny_holding (wpAny_truthy_bool (wpAny_bind (wpAny_letGo (wpAny_pure ?_)))))
    cases hbt : bt (j + 1) (argBest bt j) with
    | true =>
      simp only [if_true]
      refine wpAny_bind (wpAny_updateSeq hs' rfl (wpAny_bind (wpAny_letGo ?_)))
      rw [nm]
      refine wpAny_pure ⟨plainId_quiet F.plain_min_loop _, ih (j + 1) _ v _ (by omega) hlt (W.frame _ _ _ hst' fun c hc o h => (Heap.get?_update_other _ _ (fun q : S = c => hS (by rw [q]; exact hc))).trans h) (by simp only [argBest, hbt, if_true]; exact hv) (Heap.get?_update_self _ hs' rfl)
        fun v2 h2 tk2 p2 k2 => hR v2 h2 tk2 p2 fun c o q1 q2 q3 => k2 c o q1 q2 ((Heap.get?_update_other _ _ (Ne.symm q2)).trans (kp c o q1 q3))⟩
    | false =>
      simp only [Bool.false_eq_true, if_false]
      refine wpAny_bind (wpAny_letGo ?_)
      rw [nm]
      refine wpAny_pure ⟨plainId_quiet F.plain_min_loop _, ih (j + 1) _ b e (by omega) hlt hst' (by simp only [argBest, hbt, Bool.false_eq_true, if_false]; exact hb) hs' fun v2 h2 tk2 p2 k2 => hR v2 h2 tk2 p2 fun c o q1 q2 q3 => k2 c o q1 q2 (kp c o q1 q3)⟩
theorem mind_first (W : Walks prog w A.in1 I fp wr n T St) (bt : Nat → Nat → Bool) (hc : CmpOf prog w A.in1 .Lt T bt) (S : Addr) (hS : S ∉ fp) {s : Shared} {e : Nat} (hst : St 0 s.heap)
    (hs : s.heap.get? S = some { cls := .type "list", dict := none, data := .seq #[] e, slots := #[] })
    (hR0 : n = 0 → ∀ h' tk, (∀ b o, b ∉ wr → b ≠ S → s.heap.get? b = some o → h'.get? b = some o) → R (.ok (.ret d)) { s with heap := h', toks := tk })
    (hR : 0 < n → ∀ v h' tk, T (argBest bt (n - 1)) v → (∀ b o, b ∉ wr → b ≠ S → s.heap.get? b = some o → h'.get? b = some o) → R (.ok (.ret v)) { s with heap := h', toks := tk }) :
    codeAny (model prog w) A (.builtin "min.loop" ⟨[.ref I, .none, .ref S], [(kd, d)]⟩) R s := by
  have hSw : S ∉ wr := fun h => hS (W.sub _ h)
  have nm : (toString "min" ++ toString ".loop" : String) = "min.loop" := by decide
  refine codeAny_builtin F.entry_min_loop ?_
  rw [Around.under_plainId F.plain_min_loop _]
  show wpAny _ A.in1 (seqItems? (.ref S) >>= _) _ _ s
  refine wpAny_bind (wpAny_seqItems hs rfl ?_)
  show wpAny _ A.in1 (tryCatch (pyNext (.ref I)) _ >>= _) _ _ s
  by_cases hn : 0 < n
  · refine wpAny_bind (wpAny_tryCatch (W.item 0 s _ _ hn hst fun v h' tk hv hst' kp => ?_))
    have hs' := kp S _ hSw hs
    show wpAny _ A.in1 (updateSeq S (fun _ => #[v, v]) >>= _) _ _ _
    refine wpAny_bind (wpAny_updateSeq hs' rfl ?_)
    rw [nm]
    exact wpAny_pure ⟨plainId_quiet F.plain_min_loop _, mind_go W bt hc S hS _ 0 _ v _ rfl hn (W.frame _ _ _ hst' fun c hc o h => (Heap.get?_update_other _ _ (fun q : S = c => hS (by rw [q]; exact hc))).trans h) hv (Heap.get?_update_self _ hs' rfl)
      fun v2 h2 tk2 p2 k2 => hR hn v2 h2 tk2 p2 fun c o q1 q2 q3 => k2 c o q1 q2 ((Heap.get?_update_other _ _ (Ne.symm q2)).trans (kp c o q1 q3))⟩
  · have h0 : n = 0 := by omega
    refine wpAny_bind (wpAny_tryCatch (W.done s _ _ (h0 ▸ hst) fun h' tk kp => ?_))
    refine wpAny_bind (wpAny_rule (wpAny_pure ?_))
    exact hR0 h0 _ tk fun c o h1 h2 h3 => kp c o h1 h3
end
section
variable {prog : Program} {w : World} {A : Around} {E : Value → Shared → Prop} {s : Shared}
theorem mind_raw {l : Addr} {its : List Value} {ns : List Int} {d : Value} {Q : Value → Shared → Prop} (hh : A.handled = none) (hl : s.heap.IsList l its.toArray) (hi : IntsAre its ns)
    (h0 : ns = [] → ∀ h' tk, (∀ b o, s.heap.get? b = some o → h'.get? b = some o) → Q d { s with heap := h', toks := tk })
    (h : ∀ h' tk M t', (∀ b o, s.heap.get? b = some o → h'.get? b = some o) → M ∈ ns → (∀ a, a ∈ ns → M ≤ a) → Q (.int M t') { s with heap := h', toks := tk }) :
    wpAny (model prog w) A (call (.builtin "min") [.ref l] [(Str.ofString "default", d)]) Q E s := by
  obtain ⟨xs, e⟩ := hi.allInts.items
  have hn : numsOf (intItems xs).toList = ns := by rw [← e]; exact hi.numsOf
  rw [nums_intItems] at hn
  subst hn
  rw [e] at hl
  have nm : (toString "min" ++ toString ".loop" : String) = "min.loop" := by decide
  refine call_tree_kw F.kind_min F.plain_min F.entry_min (args_mind _ _) ?_
  show wpAny _ A.in1 (Builtin.Builtins.bindParams "min" ["key", "default"] 0 ⟨[], [(Str.ofString "default", d)]⟩ >>= _) _ _ s
  refine wpAny_bind (wpAny_of_eq (show Builtin.Builtins.bindParams "min" ["key", "default"] 0 ⟨[], [(Str.ofString "default", d)]⟩ = pure [none, some d] from rfl) ?_)
  refine wpAny_bind (wpAny_pure ?_)
  refine wpAny_bind (iter_intList hl fun s₂ es st hfp hlI => ?_)
  subst es
  refine wpAny_bind (wpAny_newObj_type ?_)
  rw [nm]
  have hsz : (intItems xs).size = xs.size := by simp [intItems]
  refine wpAny_pure ⟨plainId_quiet F.plain_min_loop _, mind_first (Walks.list (A := A.in1) hh _ l hlI (intItems xs)) (fun i j => decide (numAt xs i < numAt xs j)) (CmpOf.ints_lt (numAt xs) (fun _ _ => intItems_at)) _ (fun hm => Nat.lt_irrefl _ (hfp _ hm))
    ((Walks.list (prog := prog) (w := w) (A := A.in1) hh _ l hlI (intItems xs)).frame _ _ _ st fun b _ o q => Heap.get?_push_of_some _ q) (Heap.get?_push_size _ rfl) (fun h1 h' tk kp => ?_) fun h1 v h' tk hv kp => ?_⟩
  · have hx : xs.size = 0 := by omega
    refine h0 (List.eq_nil_of_length_eq_zero (by rw [List.length_map, Array.length_toList]; exact hx)) _ tk ?_
    intro b o q
    have hb := Heap.lt_size q
    exact old_kept (fun c o hc e => kp c o hc (Nat.ne_of_lt (Heap.lt_size e)) (Heap.get?_push_of_some _ e)) b o q
  · rw [hsz] at h1
    have hv2 : (intItems xs)[argBest (fun i j => decide (numAt xs i < numAt xs j)) (xs.size - 1)]? = some v := by simpa [intItems] using hv
    obtain ⟨t, rfl⟩ := intItems_at hv2
    obtain ⟨k1, k2⟩ := argBest_lt (numAt xs) (xs.size - 1)
    refine h _ tk _ t (fun b o q => old_kept (fun c o hc e => kp c o hc (Nat.ne_of_lt (Heap.lt_size e)) (Heap.get?_push_of_some _ e)) b o q) ?_ fun a ha => ?_
    · rw [numAt_eq]; exact PySem.getD_mem (by rw [List.length_map, Array.length_toList]; omega)
    · obtain ⟨j, hj, rfl⟩ := mem_getD ha
      rw [List.length_map, Array.length_toList] at hj
      rw [← numAt_eq]; exact k2 j (by omega)
end
section
variable {X : Cx}
def rMind (K : PySem.W.Frag) : List V → List V → Hp → VK → Prop := fun vs zs H Q => ∃ (a : Addr) (ns : List Int) (k : Int), vs = [V.ref a] ∧ zs = [V.int k] ∧ SqL K H a (ns.map V.int) ∧ (ns = [] → Q (.int k) H) ∧ ∀ m, m ∈ ns → (∀ a, a ∈ ns → m ≤ a) → Q (.int m) H
theorem cr_mind (hc : X.calm = true) : CallRK X (.builtin "min") [Str.ofString "default"] (rMind X.K) := by
  intro pins s σ H vs zs us ws Q I r rz h
  obtain ⟨a, ns, k, rfl, rfl, hs, q0, q⟩ := h
  obtain ⟨its, rv, hl, _⟩ := I.list hs
  rw [Vals.ref1 r]
  obtain ⟨w1, rfl, e1⟩ := vals1 rz
  obtain ⟨t1, rfl⟩ : ∃ t, w1 = .int k t := e1
  exact mind_raw (I.ok.hd hc) hl.isList rv.ints (fun e h' tk hk => ⟨.int _, H, I.kept hk, ⟨_, rfl⟩, q0 e⟩) fun h' tk m t' hk h1 h2 => ⟨.int _, H, I.kept hk, ⟨_, rfl⟩, q m h1 h2⟩
end


section
variable {prog : Program} {w : World} {A : Around} {R : Result → Shared → Prop} {I : Addr} {fp wr : List Addr} {n : Nat} {T : Nat → Value → Prop} {St : Nat → Heap → Prop} {kd : Str} {d : Value}
theorem args_maxd (a v : Value) : argsOk "max" ⟨[a], [(Str.ofString "default", v)]⟩ := by unfold argsOk; kernel_rfl
theorem maxd_go (W : Walks prog w A.in1 I fp wr n T St) (bt : Nat → Nat → Bool) (hc : CmpOf prog w A.in1 .Gt T bt) (S : Addr) (hS : S ∉ fp) :
    ∀ (k j : Nat) (s : Shared) (b : Value) (e : Nat), n - (j + 1) = k → j + 1 ≤ n → St (j + 1) s.heap → T (argBest bt j) b →
    s.heap.get? S = some { cls := .type "list", dict := none, data := .seq #[b, b] e, slots := #[] } →
    (∀ v h' tk, T (argBest bt (n - 1)) v → (∀ b o, b ∉ wr → b ≠ S → s.heap.get? b = some o → h'.get? b = some o) → R (.ok (.ret v)) { s with heap := h', toks := tk }) →
    codeAny (model prog w) A (.builtin "max.loop" ⟨[.ref I, .none, .ref S], [(kd, d)]⟩) R s := by
  have hSw : S ∉ wr := fun h => hS (W.sub _ h)
  have nm : (toString "max" ++ toString ".loop" : String) = "max.loop" := by decide
  intro k
  induction k with
  | zero =>
    intro j s b e hk hj hst hb hs hR
    have hin : j + 1 = n := by omega
    refine codeAny_builtin F.entry_max_loop ?_
    rw [Around.under_plainId F.plain_max_loop _]
    show wpAny _ A.in1 (seqItems? (.ref S) >>= _) _ _ s
    refine wpAny_bind (wpAny_seqItems hs rfl ?_)
    show wpAny _ A.in1 (tryCatch (pyNext (.ref I)) _ >>= _) _ _ s
    refine wpAny_bind (wpAny_tryCatch (W.done s _ _ (hin ▸ hst) fun h' tk kp => ?_))
    have hs' := kp S _ hSw hs
    show wpAny _ A.in1 (updateSeq S (fun _ => #[]) >>= _) _ _ _
    refine wpAny_bind (wpAny_updateSeq hs' rfl (wpAny_bind (wpAny_letGo (wpAny_pure ?_))))
    exact hR b _ tk (by rw [← hin]; exact hb) fun c o h1 h2 h3 => (Heap.get?_update_other _ _ (Ne.symm h2)).trans (kp c o h1 h3)
  | succ k ih =>
    intro j s b e hk hj hst hb hs hR
    have hlt : j + 1 < n := by omega
    refine codeAny_builtin F.entry_max_loop ?_
    rw [Around.under_plainId F.plain_max_loop _]
    show wpAny _ A.in1 (seqItems? (.ref S) >>= _) _ _ s
    refine wpAny_bind (wpAny_seqItems hs rfl ?_)
    show wpAny _ A.in1 (tryCatch (pyNext (.ref I)) _ >>= _) _ _ s
    refine wpAny_bind (wpAny_tryCatch (W.item (j + 1) s _ _ hlt hst fun v h' tk hv hst' kp => ?_))
    have hs' := kp S _ hSw hs
    show wpAny _ A.in1 (tryCatch (holding [v, v] (richCompare .Gt v b >>= _)) _ >>= _) _ _ _
    refine wpAny_bind (wpAny_tryCatch (wpAny_holding (wpAny_bind (hc (j + 1) (argBest bt j) v b _ _ _ hv hb ?_))))
    refine wpAny_bind (wpAny_holding (wpAny_truthy_bool (wpAny_bind (wpAny_letGo (wpAny_pure ?_)))))
    cases hbt : bt (j + 1) (argBest bt j) with
    | true =>
      simp only [if_true]
      refine wpAny_bind (wpAny_updateSeq hs' rfl (wpAny_bind (wpAny_letGo ?_)))
      rw [nm]
      refine wpAny_pure ⟨plainId_quiet F.plain_max_loop _, ih (j + 1) _ v _ (by omega) hlt (W.frame _ _ _ hst' fun c hc o h => (Heap.get?_update_other _ _ (fun q : S = c => hS (by rw [q]; exact hc))).trans h) (by simp only [argBest, hbt, if_true]; exact hv) (Heap.get?_update_self _ hs' rfl)
        fun v2 h2 tk2 p2 k2 => hR v2 h2 tk2 p2 fun c o q1 q2 q3 => k2 c o q1 q2 ((Heap.get?_update_other _ _ (Ne.symm q2)).trans (kp c o q1 q3))⟩
    | false =>
      simp only [Bool.false_eq_true, if_false]
      refine wpAny_bind (wpAny_letGo ?_)
      rw [nm]
      refine wpAny_pure ⟨plainId_quiet F.plain_max_loop _, ih (j + 1) _ b e (by omega) hlt hst' (by simp only [argBest, hbt, Bool.false_eq_true, if_false]; exact hb) hs' fun v2 h2 tk2 p2 k2 => hR v2 h2 tk2 p2 fun c o q1 q2 q3 => k2 c o q1 q2 (kp c o q1 q3)⟩
theorem maxd_first (W : Walks prog w A.in1 I fp wr n T St) (bt : Nat → Nat → Bool) (hc : CmpOf prog w A.in1 .Gt T bt) (S : Addr) (hS : S ∉ fp) {s : Shared} {e : Nat} (hst : St 0 s.heap)
    (hs : s.heap.get? S = some { cls := .type "list", dict := none, data := .seq #[] e, slots := #[] })
    (hR0 : n = 0 → ∀ h' tk, (∀ b o, b ∉ wr → b ≠ S → s.heap.get? b = some o → h'.get? b = some o) → R (.ok (.ret d)) { s with heap := h', toks := tk })
    (hR : 0 < n → ∀ v h' tk, T (argBest bt (n - 1)) v → (∀ b o, b ∉ wr → b ≠ S → s.heap.get? b = some o → h'.get? b = some o) → R (.ok (.ret v)) { s with heap := h', toks := tk }) :
    codeAny (model prog w) A (.builtin "max.loop" ⟨[.ref I, .none, .ref S], [(kd, d)]⟩) R s := by
  have hSw : S ∉ wr := fun h => hS (W.sub _ h)
  have nm : (toString "max" ++ toString ".loop" : String) = "max.loop" := by decide
  refine codeAny_builtin F.entry_max_loop ?_
  rw [Around.under_plainId F.plain_max_loop _]
  show wpAny _ A.in1 (seqItems? (.ref S) >>= _) _ _ s
  refine wpAny_bind (wpAny_seqItems hs rfl ?_)
  show wpAny _ A.in1 (tryCatch (pyNext (.ref I)) _ >>= _) _ _ s
  by_cases hn : 0 < n
  · refine wpAny_bind (wpAny_tryCatch (W.item 0 s _ _ hn hst fun v h' tk hv hst' kp => ?_))
    have hs' := kp S _ hSw hs
    show wpAny _ A.in1 (updateSeq S (fun _ => #[v, v]) >>= _) _ _ _
    refine wpAny_bind (wpAny_updateSeq hs' rfl ?_)
    rw [nm]
    exact wpAny_pure ⟨plainId_quiet F.plain_max_loop _, maxd_go W bt hc S hS _ 0 _ v _ rfl hn (W.frame _ _ _ hst' fun c hc o h => (Heap.get?_update_other _ _ (fun q : S = c => hS (by rw [q]; exact hc))).trans h) hv (Heap.get?_update_self _ hs' rfl)
      fun v2 h2 tk2 p2 k2 => hR hn v2 h2 tk2 p2 fun c o q1 q2 q3 => k2 c o q1 q2 ((Heap.get?_update_other _ _ (Ne.symm q2)).trans (kp c o q1 q3))⟩
  · have h0 : n = 0 := by omega
    refine wpAny_bind (wpAny_tryCatch (W.done s _ _ (h0 ▸ hst) fun h' tk kp => ?_))
    refine wpAny_bind (wpAny_rule (wpAny_pure ?_))
    exact hR0 h0 _ tk fun c o h1 h2 h3 => kp c o h1 h3
end
section
variable {prog : Program} {w : World} {A : Around} {E : Value → Shared → Prop} {s : Shared}
theorem maxd_raw {l : Addr} {its : List Value} {ns : List Int} {d : Value} {Q : Value → Shared → Prop} (hh : A.handled = none) (hl : s.heap.IsList l its.toArray) (hi : IntsAre its ns)
    (h0 : ns = [] → ∀ h' tk, (∀ b o, s.heap.get? b = some o → h'.get? b = some o) → Q d { s with heap := h', toks := tk })
    (h : ∀ h' tk M t', (∀ b o, s.heap.get? b = some o → h'.get? b = some o) → M ∈ ns → (∀ a, a ∈ ns → a ≤ M) → Q (.int M t') { s with heap := h', toks := tk }) :
    wpAny (model prog w) A (call (.builtin "max") [.ref l] [(Str.ofString "default", d)]) Q E s := by
  obtain ⟨xs, e⟩ := hi.allInts.items
  have hn : numsOf (intItems xs).toList = ns := by rw [← e]; exact hi.numsOf
  rw [nums_intItems] at hn
  subst hn
  rw [e] at hl
  have nm : (toString "max" ++ toString ".loop" : String) = "max.loop" := by decide
  refine call_tree_kw F.kind_max F.plain_max F.entry_max (args_maxd _ _) ?_
  show wpAny _ A.in1 (Builtin.Builtins.bindParams "max" ["key", "default"] 0 ⟨[], [(Str.ofString "default", d)]⟩ >>= _) _ _ s
  refine wpAny_bind (wpAny_of_eq (show Builtin.Builtins.bindParams "max" ["key", "default"] 0 ⟨[], [(Str.ofString "default", d)]⟩ = pure [none, some d] from rfl) ?_)
  refine wpAny_bind (wpAny_pure ?_)
  refine wpAny_bind (iter_intList hl fun s₂ es st hfp hlI => ?_)
  subst es
  refine wpAny_bind (wpAny_newObj_type ?_)
  rw [nm]
  have hsz : (intItems xs).size = xs.size := by simp [intItems]
  refine wpAny_pure ⟨plainId_quiet F.plain_max_loop _, maxd_first (Walks.list (A := A.in1) hh _ l hlI (intItems xs)) (fun i j => decide (numAt xs i > numAt xs j)) (CmpOf.ints_gt (numAt xs) (fun _ _ => intItems_at)) _ (fun hm => Nat.lt_irrefl _ (hfp _ hm))
    ((Walks.list (prog := prog) (w := w) (A := A.in1) hh _ l hlI (intItems xs)).frame _ _ _ st fun b _ o q => Heap.get?_push_of_some _ q) (Heap.get?_push_size _ rfl) (fun h1 h' tk kp => ?_) fun h1 v h' tk hv kp => ?_⟩
  · have hx : xs.size = 0 := by omega
    refine h0 (List.eq_nil_of_length_eq_zero (by rw [List.length_map, Array.length_toList]; exact hx)) _ tk ?_
    intro b o q
    have hb := Heap.lt_size q
    exact old_kept (fun c o hc e => kp c o hc (Nat.ne_of_lt (Heap.lt_size e)) (Heap.get?_push_of_some _ e)) b o q
  · rw [hsz] at h1
    have hv2 : (intItems xs)[argBest (fun i j => decide (numAt xs i > numAt xs j)) (xs.size - 1)]? = some v := by simpa [intItems] using hv
    obtain ⟨t, rfl⟩ := intItems_at hv2
    obtain ⟨k1, k2⟩ := argBest_gt (numAt xs) (xs.size - 1)
    refine h _ tk _ t (fun b o q => old_kept (fun c o hc e => kp c o hc (Nat.ne_of_lt (Heap.lt_size e)) (Heap.get?_push_of_some _ e)) b o q) ?_ fun a ha => ?_
    · rw [numAt_eq]; exact PySem.getD_mem (by rw [List.length_map, Array.length_toList]; omega)
    · obtain ⟨j, hj, rfl⟩ := mem_getD ha
      rw [List.length_map, Array.length_toList] at hj
      rw [← numAt_eq]; exact k2 j (by omega)
end
section
variable {X : Cx}
def rMaxd (K : PySem.W.Frag) : List V → List V → Hp → VK → Prop := fun vs zs H Q => ∃ (a : Addr) (ns : List Int) (k : Int), vs = [V.ref a] ∧ zs = [V.int k] ∧ SqL K H a (ns.map V.int) ∧ (ns = [] → Q (.int k) H) ∧ ∀ m, m ∈ ns → (∀ a, a ∈ ns → a ≤ m) → Q (.int m) H
theorem cr_maxd (hc : X.calm = true) : CallRK X (.builtin "max") [Str.ofString "default"] (rMaxd X.K) := by
  intro pins s σ H vs zs us ws Q I r rz h
  obtain ⟨a, ns, k, rfl, rfl, hs, q0, q⟩ := h
  obtain ⟨its, rv, hl, _⟩ := I.list hs
  rw [Vals.ref1 r]
  obtain ⟨w1, rfl, e1⟩ := vals1 rz
  obtain ⟨t1, rfl⟩ : ∃ t, w1 = .int k t := e1
  exact maxd_raw (I.ok.hd hc) hl.isList rv.ints (fun e h' tk hk => ⟨.int _, H, I.kept hk, ⟨_, rfl⟩, q0 e⟩) fun h' tk m t' hk h1 h2 => ⟨.int _, H, I.kept hk, ⟨_, rfl⟩, q m h1 h2⟩
end

end L2
namespace PySem
namespace OwnX_at
open PySem.W PySem.Calls PyProof.Rows PySem.HandSPX
/-! ### the text of __init__ -/
def iA (p1 p2 : Pos) : Arguments := { posonlyargs := [], args := [{ arg := "self", annotation := none, pos := p1 }, { arg := "at", annotation := none, pos := p2 }], vararg := none, kwonlyargs := [], kw_defaults := [], kwarg := none, defaults := [] }
def iB (q1 q2 q3 q4 : Pos) : List Stmt := [.Assign [.Attribute (.Name "self" q1) "at" q2] (.Name "at" q3) q4]
def iS : Scope := { kind := .function, names := [(PySem.Str.ofString "self", .local), (PySem.Str.ofString "at", .local)], isGenerator := false, isCoroutine := false, more := [] }
/-- what the written part says of Low, at C, and of its __init__, at fI -/
structure LowTxt (K : Frag) (mg : Str → Option Value) (x qi : Str) (C fI : Addr) : Prop where
  gC : mg x = some (.ref C)
  hdb : (x == ("__debug__" : Str)) = false
  cls : ∃ nm q N bs bm sn sub ab col dd k0 k1 k2 k3 k5, K.lookup C = some (excClassObj nm q C N bs bm true sn sub ab col dd k0 k1 k2 k3 k5 "ValueError.__new__") ∧ refsVE bm = true
  sa : findIn K (.ref C) "__setattr__" = some (some (.builtin "object.__setattr__"))
  ga : findIn K (.ref C) "__getattribute__" = some (some (.builtin "BaseException.__getattribute__"))
  gg : findIn K (.ref C) "__getattr__" = some none
  noN : findIn K (.ref C) "at" = some none
  iC : findIn K (.ref C) "__init__" = some (some (.ref fI))
  tC : typeIn K (.ref fI) = some (.type "function")
  kC : keepIn K (.ref C) = true
  exC : subIn K (.ref C) (.type "BaseException") = some true
  tyC : typeIn K (.ref C) = some (.type "type")
  hdC : hasDictIn K C = true
  te : exmOne K (.ref C) (.ref C) = some true
  fn : ∃ (oc : Value) (od : Option Addr) (doc pm : Value) (an : Option Addr) (cdv ct : Value) (osl : Array (Option Value)) (p1 p2 q1 q2 q3 q4 : Pos),
    K.lookup fI = some ⟨oc, od, .func (fnOf "__init__" qi (iA p1 p2) (iB q1 q2 q3 q4) iS .none .none doc pm an cdv ct), osl⟩ ∧ codeIn K cdv qi = true
theorem one_size (v : Value) : [v].length ≤ sizeLine := by
  rw [sizeLine_eq]
  exact (by decide : 1 ≤ 16777216)
theorem kept_but {K : Frag} {h h' : Heap} {x : Addr} (X : K.In h) (hx : K.lookup x = none) (k : ∀ b o, b ≠ x → h.get? b = some o → h'.get? b = some o) : K.In h' := fun a o e =>
  k a o (fun z => by rw [z, hx] at e; cases e) (X a o e)
theorem ldC {M : Model} {s : Shared} {name : Str} {scope : Scope} {L a : Addr} {cd : Value} {m : Str → Option Value} {x : Str} {pos : Pos} {v : Value} {Q : Value → Shared → Prop} {A : Around} {E : Value → Shared → Prop} (hn : s.heap.Ns L m) (hv : m x = some v) (h : Q v s)
    (hk : scope.kind = .function := by rfl) (hl : (envOfC name scope L a cd).kindOf x = some .local := by rfl) (hd : (x == ("__debug__" : Str)) = false := by decide) :
    wpAny M A (eval (.Name x pos) (envOfC name scope L a cd)) Q E s := wpAny_Name (wpAny_loadName_local hk hl hn hv h) hd
/-- what __init__ leaves of a fresh exception at x -/
structure InitEnd (h h' : Heap) (x C dx t1 : Addr) (v : Value) : Prop where
  keep : ∀ b o, b ≠ x → h.get? b = some o → h'.get? b = some o
  obj : h'.get? x = some { cls := .ref C, dict := some dx, data := .fields #[.ref t1, .none, .none, .none, .bool false, .none] }
  dbig : h.objs.size ≤ dx
  dne : dx ≠ x
  ns : h'.Ns1 dx (fun y => if y = "at" then some v else none)
/-- a made Low -/
structure OwnMade (h h' : Heap) (e C d : Addr) (v : Value) : Prop where
  keep : ∀ b o, h.get? b = some o → h'.get? b = some o
  new : h.objs.size ≤ e
  obj : ∃ oe vs, h'.get? e = some oe ∧ oe.cls = .ref C ∧ oe.dict = some d ∧ oe.data = .fields vs ∧ vs[1]? = some .none
  dbig : h.objs.size ≤ d
  dne : d ≠ e
  ns : h'.Ns1 d (fun y => if y = "at" then some v else none)
section
variable {prog : Program} {w : World} {A : Around} {E : Value → Shared → Prop} {R : Result → Shared → Prop} {s : Shared} {K : Frag} {mg : Str → Option Value} {C fI : Addr} {xc qi : Str}
theorem low_init (T : LowTxt K mg xc qi C fI) {x t0 : Addr} {v : Value} (X : K.In s.heap) (hlim : s.heap.NoLimit) (hx : s.heap.get? x = some (excO C t0)) (hnx : K.lookup x = none) (hroom : A.depth < recursionLimit)
    (hq : ∀ h' tk dx, InitEnd s.heap h' x C dx t0 v → R (.ok (.ret .none)) { s with heap := h', toks := tk }) :
    codeAny (model prog w) A (.call (.ref fI) ⟨[.ref x, v], []⟩) R s := by
  obtain ⟨oc, od, doc, pm, an, cdv, ct, osl, p1, p2, q1, q2, q3, q4, ho, hcd⟩ := T.fn
  obtain ⟨nm, q, N, bs, bm, sn, sub, ab, col, dd, k0, k1, k2, k3, k5, hC, hbm⟩ := T.cls
  have hcl : clsIn K C = some { name := nm, bases := bs, mro := .ref C :: bm, ns := N, qualname := q, hasDict := true, slotNames := sn, subclasses := sub, abstract := ab, collection := col, hasDel := false } := by unfold clsIn; rw [hC] <;> rfl
  refine Att.call_fn (binds := [("self", .ref x), ("at", v)]) X hlim ho hcd hroom (BindsTo.of_eq (by first | rfl | with_unfolding_all rfl)) (by first | rfl | decide | with_unfolding_all rfl) (fun s₁ IC => ?_) rfl rfl rfl
  obtain ⟨h₁, tk₁, rfl⟩ := IC.toInCall.same
  have k : ∀ b o, s.heap.get? b = some o → h₁.get? b = some o := IC.toInCall.keep
  have hn := IC.toInCall.ns
  have hxL : s.heap.objs.size ≠ x := Nat.ne_of_gt (Heap.lt_size hx)
  have X₁ : K.In h₁ := X.keeps k
  have hx₁ := k _ _ hx
  -- self.by = by
  show wpAny _ _ (execs _ _) _ _ _
  refine wpAny_execs_cons (plainObj_wpAny_Assign_Attribute ?_)
  refine ldC (v := v) hn (by first | rfl | with_unfolding_all rfl | kernel_rfl) (ldC (v := .ref x) hn (by first | rfl | with_unfolding_all rfl | kernel_rfl) ?_)
  refine set_plain X₁ (ox := excO C t0) (od := none) ⟨hx₁, rfl, rfl, trivial⟩ T.sa ?_
  refine exc_osa X₁ hx₁ hcl (show refsVE (.ref C :: bm) = true from hbm) rfl T.noN (fun h₃ tk₃ dx k₃ dn dne hx₃ hn₃ => ?_)
  show wpAny _ _ (execs _ _) _ _ _
  have z : s.heap.objs.size < h₁.objs.size := hn.lt
  exact wpAny_execs_nil (hq h₃ tk₃ dx ⟨fun b o hb e => k₃ b o hb (k b o e), hx₃, Nat.le_of_lt (Nat.lt_of_lt_of_le z dn), dne, hn₃⟩)
theorem low_made (T : LowTxt K mg xc qi C fI) {v : Value} (X : K.In s.heap) (hlim : s.heap.NoLimit) (hroom : A.depth + 1 < recursionLimit)
    (hq : ∀ h' tk e d, OwnMade s.heap h' e C d v → R (.ok (.ret (.ref e))) { s with heap := h', toks := tk }) :
    codeAny (model prog w) A (.call (.ref C) ⟨[v], []⟩) R s := by
  obtain ⟨nm, q, N, bs, bm, sn, sub, ab, col, dd, k0, k1, k2, k3, k5, hC, hbm⟩ := T.cls
  obtain ⟨hp, g, dr, tk, os⟩ := s
  have k : ∀ b o, hp.get? b = some o → ((hp.push (kdv_tup [v])).push (excO C hp.objs.size)).get? b = some o := fun b o e => Heap.get?_push_of_some _ (Heap.get?_push_of_some _ e)
  have hget : ((hp.push (kdv_tup [v])).push (excO C hp.objs.size)).get? (hp.objs.size + 1) = some (excO C hp.objs.size) := by heap_get
  have hnx : K.lookup (hp.objs.size + 1) = none := by
    cases e : K.lookup (hp.objs.size + 1) with
    | none => rfl
    | some o =>
      have z : hp.get? (hp.objs.size + 1) = some o := X _ _ e
      exact absurd (Nat.lt_of_succ_lt (Heap.lt_size z)) (Nat.lt_irrefl _)
  refine call_own F.excBase_ValueError (fun X => refsVE_contains X bm hbm) (X _ _ hC) (looks_findIn X T.iC) (fun self => bind_fn X self T.tC) (one_size v) ?_
  refine low_init (s := ⟨(hp.push (kdv_tup [v])).push (excO C hp.objs.size), g, dr, tk, os⟩) T (X.keeps k) (hlim.keeps k) hget hnx ?_ fun h' tk' dx ⟨k', hx, dn, dne, hns⟩ => ?_
  · show A.depth + 1 < recursionLimit
    exact hroom
  · have old : ∀ b o, hp.get? b = some o → h'.get? b = some o := fun b o e => k' b o (Nat.ne_of_lt (Nat.lt_succ_of_lt (Heap.lt_size e))) (k b o e)
    have z : hp.objs.size + 1 + 1 ≤ dx := by
      first
        | (simpa only [Heap.size_push] using dn)
        | exact dn
        | (have q := dn; rw [Heap.size_push, Heap.size_push] at q; exact q)
    exact ⟨rfl, hq h' tk' (hp.objs.size + 1) dx ⟨old, Nat.le_succ _, ⟨_, _, hx, rfl, rfl, rfl, rfl⟩, Nat.le_trans (Nat.le_trans (Nat.le_succ _) (Nat.le_succ _)) z, dne, hns⟩⟩
end
end OwnX_at
end PySem
namespace L2
open PySem PySem.Spec PyProof.Rows
theorem relO_low_at {v : V} {v' : Value} (r : RelV v v') (f : Str) : RelO (List.lookup f [(("at" : Str), v)]) (if f = "at" then some v' else none) := by
  by_cases hw : f = "at"
  · subst hw
    rw [if_pos rfl]
    have q : List.lookup ("at" : Str) [(("at" : Str), v)] = some v := by simp [List.lookup]
    rw [q]
    exact r
  · rw [if_neg hw]
    have qw : (f == ("at" : Str)) = false := by simpa using hw
    have q2 : List.lookup f [(("at" : Str), v)] = none := by simp [List.lookup, qw]
    rw [q2]
    trivial
section
variable {X : Cx} {C fI : Addr} {xc qi : Str}
/-- Low(e) -/
def tMk_at (C : Addr) (ta : TA) : St → Hp → XK → Prop := fun σ H Q => ta σ H fun vs H1 => ∃ v, vs = [v] ∧ ∀ d, H1 d = none → Q (.ref C) (some d) (upd H1 d (.xd [(("at" : Str), v)]))
theorem pmk_low_at {a : Expr} {ta : TA} {p pos : Pos} {k : Nat} (T : PySem.OwnX_at.LowTxt X.K X.mg xc qi C fI) (hr : Room k X.A) (ha : PA X [a] ta) (hg : Gl X xc)
    (he : starEach (a :: []) X.env = (false, eval a X.env) :: starEach [] X.env := by rfl) (hpl : (backTo pos (starEach [] X.env)).any (·.1) = false := by rfl) :
    PMk X (.Call (.Name xc p) [a] [] pos) (tMk_at C ta) := by
  intro pins s σ H Q I h
  refine wpAny_Call_Name_kw (ld_glob I hg T.gC ?_ T.hdb)
  refine PySem.W.callWith_K (h₀ := X.base) I.ok.mod.kin T.kC (thn (ha.run pos pins s σ H _ I h) fun us s1 hh => ?_) he hpl
  obtain ⟨vs, H1, I1, r1, v, ev, q1⟩ := hh
  subst ev
  refine ⟨I1.kIn, ?_⟩
  cases r1 with
  | cons rv rn =>
    rename_i v' us'
    cases rn
    show wpAny _ _ (call (.ref C) [v']) _ _ _
    have hlim := I1.nolimit
    obtain ⟨hp, g, dr, tk, os⟩ := s1
    refine wpAny_call (PySem.OwnX_at.low_made T I1.kIn hlim (by have := hr.dp; omega) fun h' tk' e d M => ?_)
    show MkP X pins σ Q (.ref e) ⟨h', g, dr, tk', os⟩
    obtain ⟨oe, fv, hoe, hc, hd, hdat, h1⟩ := M.obj
    have hns := M.ns
    obtain ⟨G', g1, g2⟩ := restrict h' fun b => decide (b ≠ e)
    have gk : ∀ b, b ≠ e → G'.get? b = h'.get? b := fun b hb => g1 b (decide_eq_true hb)
    have ge : G'.get? e = none := g2 e (by simp)
    have old : ∀ b o, hp.get? b = some o → G'.get? b = some o := fun b o q => (gk b (Nat.ne_of_lt (Nat.lt_of_lt_of_le (Heap.lt_size q) M.new))).trans (M.keep b o q)
    have ob : ObjOk X.prog X.w (upd H1 d (.xd [(("at" : Str), v)])) G' d (.xd [(("at" : Str), v)]) :=
      ⟨_, hns.at (fun o q => (gk d M.dne).trans q), fun f => relO_low_at rv f⟩
    have J : Inv X pins σ (upd H1 d (.xd [(("at" : Str), v)])) ⟨G', g, dr, tk', os⟩ := I1.laid (t' := tk') old M.dbig ob
    refine ⟨e, oe, fv, ⟨G', g, dr, tk', os⟩, _, .ref C, some d, rfl, J, fun b o q => ?_, ge, hoe, ⟨hc, hd⟩, hdat, h1, ?_, rfl, I1.bare, raises_own T.exC T.tyC, q1 d (I1.hok.fresh M.dbig)⟩
    · by_cases hb : b = e
      · have q' : G'.get? b = some o := q
        rw [hb, ge] at q'; cases q'
      · exact (gk b hb).symm.trans q
    · rw [upd_ne (Ne.symm M.dne)]
      exact I1.hok.fresh M.new
/-- raise Low(e) -/
def tRaise_at (C : Addr) (W : WX) (ta : TA) : TS := fun _ σ H => tMk_at C ta σ H fun cls d H' => W cls d σ H'
theorem ps_raise_at {a : Expr} {ta : TA} {W : WX} {p pos pos2 : Pos} {k : Nat} (hc : X.calm = true) (T : PySem.OwnX_at.LowTxt X.K X.mg xc qi C fI) (hr : Room k X.A) (tk : Takes X W) (ha : PA X [a] ta) (hg : Gl X xc)
    (he : starEach (a :: []) X.env = (false, eval a X.env) :: starEach [] X.env := by rfl) (hpl : (backTo pos (starEach [] X.env)).any (·.1) = false := by rfl) :
    PS X (.Raise (some (.Call (.Name xc p) [a] [] pos)) none pos2) (tRaise_at C W ta) := ps_raise hc tk (pmk_low_at T hr ha hg he hpl)
/-- low.by, low the exception that the suite holds (at a; its class cls, its dict d) -/
def tBy_at (C : Addr) (a : Addr) (cls : Value) (d : Option Addr) (te : TE) : TE := fun σ H Q => te σ H fun x H1 => x = .ref a ∧ cls = .ref C ∧ ∃ (dd : Addr) (v : V), d = some dd ∧ H1 dd = some (.xd [(("at" : Str), v)]) ∧ Q v H1
theorem pe_by_at {a : Addr} {oe : Obj} {cls : Value} {d : Option Addr} {pn : List (Addr × Obj)} {e : Expr} {te : TE} {pos : Pos} (T : PySem.OwnX_at.LowTxt X.K X.mg xc qi C fI) (hz : Zc cls d oe) (hf : ∃ vs, oe.data = .fields vs) (he : PE (X.suite a ((a, oe) :: pn)) e te)
    (hb : attributeBase e "at" X.env (eval e X.env) = eval e X.env := by rfl) :
    PE (X.suite a ((a, oe) :: pn)) (.Attribute e "at" pos) (tBy_at C a cls d te) := by
  refine ⟨fun pins s σ H Q I h => ?_⟩
  refine attr_of hb (thn (he.run pins s σ H _ I h) fun u s1 hh => ?_)
  obtain ⟨x, H1, I1, rx, ex, ec, dd, v, ed, ea, q⟩ := hh
  subst ex
  obtain rfl : u = Value.ref a := rx
  subst ec
  subst ed
  obtain ⟨ha, _⟩ := I1.pin (a, oe) (List.mem_append_left _ List.mem_cons_self)
  obtain ⟨vs, hd⟩ := hf
  have hx : ObjOk X.prog X.w H1 s1.heap dd (.xd [(("at" : Str), v)]) := I1.hok dd _ ea
  obtain ⟨mA, hns, hr⟩ := hx
  obtain ⟨od, ho, hl⟩ := lookIn_ns hns
  have l : List.lookup ("at" : Str) [(("at" : Str), v)] = some v := by simp [List.lookup]
  obtain ⟨u, hu, ru⟩ := RelO.some_of (v := v) (o := mA "at") (by rw [← l]; exact hr "at")
  have J : PySem.W.InstAt s1.heap a oe C (some od) := ⟨ha, hz.1, by unfold PySem.W.notCls; rw [hd] <;> rfl, by rw [hz.2]; exact ho⟩
  exact HandSPX.exc_get I1.kIn J T.ga T.gg T.exC (PySem.W.findObj_own T.hdC T.noN rfl (by rw [hl, hu])) (handed_of ru) ⟨v, H1, I1.tok _, ru, q⟩
end
end L2

namespace PySem
namespace OwnX_name
open PySem.W PySem.Calls PyProof.Rows PySem.HandSPX
/-! ### the text of __init__ -/
def iA (p1 p2 : Pos) : Arguments := { posonlyargs := [], args := [{ arg := "self", annotation := none, pos := p1 }, { arg := "name", annotation := none, pos := p2 }], vararg := none, kwonlyargs := [], kw_defaults := [], kwarg := none, defaults := [] }
def iB (q1 q2 q3 q4 : Pos) : List Stmt := [.Assign [.Attribute (.Name "self" q1) "name" q2] (.Name "name" q3) q4]
def iS : Scope := { kind := .function, names := [(PySem.Str.ofString "self", .local), (PySem.Str.ofString "name", .local)], isGenerator := false, isCoroutine := false, more := [] }
/-- what the written part says of Low, at C, and of its __init__, at fI -/
structure LowTxt (K : Frag) (mg : Str → Option Value) (x qi : Str) (C fI : Addr) : Prop where
  gC : mg x = some (.ref C)
  hdb : (x == ("__debug__" : Str)) = false
  cls : ∃ nm q N bs bm sn sub ab col dd k0 k1 k2 k3 k5, K.lookup C = some (excClassObj nm q C N bs bm true sn sub ab col dd k0 k1 k2 k3 k5 "ValueError.__new__") ∧ refsVE bm = true
  sa : findIn K (.ref C) "__setattr__" = some (some (.builtin "object.__setattr__"))
  ga : findIn K (.ref C) "__getattribute__" = some (some (.builtin "BaseException.__getattribute__"))
  gg : findIn K (.ref C) "__getattr__" = some none
  noN : findIn K (.ref C) "name" = some none
  iC : findIn K (.ref C) "__init__" = some (some (.ref fI))
  tC : typeIn K (.ref fI) = some (.type "function")
  kC : keepIn K (.ref C) = true
  exC : subIn K (.ref C) (.type "BaseException") = some true
  tyC : typeIn K (.ref C) = some (.type "type")
  hdC : hasDictIn K C = true
  te : exmOne K (.ref C) (.ref C) = some true
  fn : ∃ (oc : Value) (od : Option Addr) (doc pm : Value) (an : Option Addr) (cdv ct : Value) (osl : Array (Option Value)) (p1 p2 q1 q2 q3 q4 : Pos),
    K.lookup fI = some ⟨oc, od, .func (fnOf "__init__" qi (iA p1 p2) (iB q1 q2 q3 q4) iS .none .none doc pm an cdv ct), osl⟩ ∧ codeIn K cdv qi = true
theorem one_size (v : Value) : [v].length ≤ sizeLine := by
  rw [sizeLine_eq]
  exact (by decide : 1 ≤ 16777216)
theorem kept_but {K : Frag} {h h' : Heap} {x : Addr} (X : K.In h) (hx : K.lookup x = none) (k : ∀ b o, b ≠ x → h.get? b = some o → h'.get? b = some o) : K.In h' := fun a o e =>
  k a o (fun z => by rw [z, hx] at e; cases e) (X a o e)
theorem ldC {M : Model} {s : Shared} {name : Str} {scope : Scope} {L a : Addr} {cd : Value} {m : Str → Option Value} {x : Str} {pos : Pos} {v : Value} {Q : Value → Shared → Prop} {A : Around} {E : Value → Shared → Prop} (hn : s.heap.Ns L m) (hv : m x = some v) (h : Q v s)
    (hk : scope.kind = .function := by rfl) (hl : (envOfC name scope L a cd).kindOf x = some .local := by rfl) (hd : (x == ("__debug__" : Str)) = false := by decide) :
    wpAny M A (eval (.Name x pos) (envOfC name scope L a cd)) Q E s := wpAny_Name (wpAny_loadName_local hk hl hn hv h) hd
/-- what __init__ leaves of a fresh exception at x -/
structure InitEnd (h h' : Heap) (x C dx t1 : Addr) (v : Value) : Prop where
  keep : ∀ b o, b ≠ x → h.get? b = some o → h'.get? b = some o
  obj : h'.get? x = some { cls := .ref C, dict := some dx, data := .fields #[.ref t1, .none, .none, .none, .bool false, .none] }
  dbig : h.objs.size ≤ dx
  dne : dx ≠ x
  ns : h'.Ns1 dx (fun y => if y = "name" then some v else none)
/-- a made Low -/
structure OwnMade (h h' : Heap) (e C d : Addr) (v : Value) : Prop where
  keep : ∀ b o, h.get? b = some o → h'.get? b = some o
  new : h.objs.size ≤ e
  obj : ∃ oe vs, h'.get? e = some oe ∧ oe.cls = .ref C ∧ oe.dict = some d ∧ oe.data = .fields vs ∧ vs[1]? = some .none
  dbig : h.objs.size ≤ d
  dne : d ≠ e
  ns : h'.Ns1 d (fun y => if y = "name" then some v else none)
section
variable {prog : Program} {w : World} {A : Around} {E : Value → Shared → Prop} {R : Result → Shared → Prop} {s : Shared} {K : Frag} {mg : Str → Option Value} {C fI : Addr} {xc qi : Str}
theorem low_init (T : LowTxt K mg xc qi C fI) {x t0 : Addr} {v : Value} (X : K.In s.heap) (hlim : s.heap.NoLimit) (hx : s.heap.get? x = some (excO C t0)) (hnx : K.lookup x = none) (hroom : A.depth < recursionLimit)
    (hq : ∀ h' tk dx, InitEnd s.heap h' x C dx t0 v → R (.ok (.ret .none)) { s with heap := h', toks := tk }) :
    codeAny (model prog w) A (.call (.ref fI) ⟨[.ref x, v], []⟩) R s := by
  obtain ⟨oc, od, doc, pm, an, cdv, ct, osl, p1, p2, q1, q2, q3, q4, ho, hcd⟩ := T.fn
  obtain ⟨nm, q, N, bs, bm, sn, sub, ab, col, dd, k0, k1, k2, k3, k5, hC, hbm⟩ := T.cls
  have hcl : clsIn K C = some { name := nm, bases := bs, mro := .ref C :: bm, ns := N, qualname := q, hasDict := true, slotNames := sn, subclasses := sub, abstract := ab, collection := col, hasDel := false } := by unfold clsIn; rw [hC] <;> rfl
  refine Att.call_fn (binds := [("self", .ref x), ("name", v)]) X hlim ho hcd hroom (BindsTo.of_eq (by first | rfl | with_unfolding_all rfl)) (by first | rfl | decide | with_unfolding_all rfl) (fun s₁ IC => ?_) rfl rfl rfl
  obtain ⟨h₁, tk₁, rfl⟩ := IC.toInCall.same
  have k : ∀ b o, s.heap.get? b = some o → h₁.get? b = some o := IC.toInCall.keep
  have hn := IC.toInCall.ns
  have hxL : s.heap.objs.size ≠ x := Nat.ne_of_gt (Heap.lt_size hx)
  have X₁ : K.In h₁ := X.keeps k
  have hx₁ := k _ _ hx
  -- self.by = by
  show wpAny _ _ (execs _ _) _ _ _
  refine wpAny_execs_cons (plainObj_wpAny_Assign_Attribute ?_)
  refine ldC (v := v) hn (by first | rfl | with_unfolding_all rfl | kernel_rfl) (ldC (v := .ref x) hn (by first | rfl | with_unfolding_all rfl | kernel_rfl) ?_)
  refine set_plain X₁ (ox := excO C t0) (od := none) ⟨hx₁, rfl, rfl, trivial⟩ T.sa ?_
  refine exc_osa X₁ hx₁ hcl (show refsVE (.ref C :: bm) = true from hbm) rfl T.noN (fun h₃ tk₃ dx k₃ dn dne hx₃ hn₃ => ?_)
  show wpAny _ _ (execs _ _) _ _ _
  have z : s.heap.objs.size < h₁.objs.size := hn.lt
  exact wpAny_execs_nil (hq h₃ tk₃ dx ⟨fun b o hb e => k₃ b o hb (k b o e), hx₃, Nat.le_of_lt (Nat.lt_of_lt_of_le z dn), dne, hn₃⟩)
theorem low_made (T : LowTxt K mg xc qi C fI) {v : Value} (X : K.In s.heap) (hlim : s.heap.NoLimit) (hroom : A.depth + 1 < recursionLimit)
    (hq : ∀ h' tk e d, OwnMade s.heap h' e C d v → R (.ok (.ret (.ref e))) { s with heap := h', toks := tk }) :
    codeAny (model prog w) A (.call (.ref C) ⟨[v], []⟩) R s := by
  obtain ⟨nm, q, N, bs, bm, sn, sub, ab, col, dd, k0, k1, k2, k3, k5, hC, hbm⟩ := T.cls
  obtain ⟨hp, g, dr, tk, os⟩ := s
  have k : ∀ b o, hp.get? b = some o → ((hp.push (kdv_tup [v])).push (excO C hp.objs.size)).get? b = some o := fun b o e => Heap.get?_push_of_some _ (Heap.get?_push_of_some _ e)
  have hget : ((hp.push (kdv_tup [v])).push (excO C hp.objs.size)).get? (hp.objs.size + 1) = some (excO C hp.objs.size) := by heap_get
  have hnx : K.lookup (hp.objs.size + 1) = none := by
    cases e : K.lookup (hp.objs.size + 1) with
    | none => rfl
    | some o =>
      have z : hp.get? (hp.objs.size + 1) = some o := X _ _ e
      exact absurd (Nat.lt_of_succ_lt (Heap.lt_size z)) (Nat.lt_irrefl _)
  refine call_own F.excBase_ValueError (fun X => refsVE_contains X bm hbm) (X _ _ hC) (looks_findIn X T.iC) (fun self => bind_fn X self T.tC) (one_size v) ?_
  refine low_init (s := ⟨(hp.push (kdv_tup [v])).push (excO C hp.objs.size), g, dr, tk, os⟩) T (X.keeps k) (hlim.keeps k) hget hnx ?_ fun h' tk' dx ⟨k', hx, dn, dne, hns⟩ => ?_
  · show A.depth + 1 < recursionLimit
    exact hroom
  · have old : ∀ b o, hp.get? b = some o → h'.get? b = some o := fun b o e => k' b o (Nat.ne_of_lt (Nat.lt_succ_of_lt (Heap.lt_size e))) (k b o e)
    have z : hp.objs.size + 1 + 1 ≤ dx := by
      first
        | (simpa only [Heap.size_push] using dn)
        | exact dn
        | (have q := dn; rw [Heap.size_push, Heap.size_push] at q; exact q)
    exact ⟨rfl, hq h' tk' (hp.objs.size + 1) dx ⟨old, Nat.le_succ _, ⟨_, _, hx, rfl, rfl, rfl, rfl⟩, Nat.le_trans (Nat.le_trans (Nat.le_succ _) (Nat.le_succ _)) z, dne, hns⟩⟩
end
end OwnX_name
end PySem
namespace L2
open PySem PySem.Spec PyProof.Rows
theorem relO_low_name {v : V} {v' : Value} (r : RelV v v') (f : Str) : RelO (List.lookup f [(("name" : Str), v)]) (if f = "name" then some v' else none) := by
  by_cases hw : f = "name"
  · subst hw
    rw [if_pos rfl]
    have q : List.lookup ("name" : Str) [(("name" : Str), v)] = some v := by simp [List.lookup]
    rw [q]
    exact r
  · rw [if_neg hw]
    have qw : (f == ("name" : Str)) = false := by simpa using hw
    have q2 : List.lookup f [(("name" : Str), v)] = none := by simp [List.lookup, qw]
    rw [q2]
    trivial
section
variable {X : Cx} {C fI : Addr} {xc qi : Str}
/-- Low(e) -/
def tMk_name (C : Addr) (ta : TA) : St → Hp → XK → Prop := fun σ H Q => ta σ H fun vs H1 => ∃ v, vs = [v] ∧ ∀ d, H1 d = none → Q (.ref C) (some d) (upd H1 d (.xd [(("name" : Str), v)]))
theorem pmk_low_name {a : Expr} {ta : TA} {p pos : Pos} {k : Nat} (T : PySem.OwnX_name.LowTxt X.K X.mg xc qi C fI) (hr : Room k X.A) (ha : PA X [a] ta) (hg : Gl X xc)
    (he : starEach (a :: []) X.env = (false, eval a X.env) :: starEach [] X.env := by rfl) (hpl : (backTo pos (starEach [] X.env)).any (·.1) = false := by rfl) :
    PMk X (.Call (.Name xc p) [a] [] pos) (tMk_name C ta) := by
  intro pins s σ H Q I h
  refine wpAny_Call_Name_kw (ld_glob I hg T.gC ?_ T.hdb)
  refine PySem.W.callWith_K (h₀ := X.base) I.ok.mod.kin T.kC (thn (ha.run pos pins s σ H _ I h) fun us s1 hh => ?_) he hpl
  obtain ⟨vs, H1, I1, r1, v, ev, q1⟩ := hh
  subst ev
  refine ⟨I1.kIn, ?_⟩
  cases r1 with
  | cons rv rn =>
    rename_i v' us'
    cases rn
    show wpAny _ _ (call (.ref C) [v']) _ _ _
    have hlim := I1.nolimit
    obtain ⟨hp, g, dr, tk, os⟩ := s1
    refine wpAny_call (PySem.OwnX_name.low_made T I1.kIn hlim (by have := hr.dp; omega) fun h' tk' e d M => ?_)
    show MkP X pins σ Q (.ref e) ⟨h', g, dr, tk', os⟩
    obtain ⟨oe, fv, hoe, hc, hd, hdat, h1⟩ := M.obj
    have hns := M.ns
    obtain ⟨G', g1, g2⟩ := restrict h' fun b => decide (b ≠ e)
    have gk : ∀ b, b ≠ e → G'.get? b = h'.get? b := fun b hb => g1 b (decide_eq_true hb)
    have ge : G'.get? e = none := g2 e (by simp)
    have old : ∀ b o, hp.get? b = some o → G'.get? b = some o := fun b o q => (gk b (Nat.ne_of_lt (Nat.lt_of_lt_of_le (Heap.lt_size q) M.new))).trans (M.keep b o q)
    have ob : ObjOk X.prog X.w (upd H1 d (.xd [(("name" : Str), v)])) G' d (.xd [(("name" : Str), v)]) :=
      ⟨_, hns.at (fun o q => (gk d M.dne).trans q), fun f => relO_low_name rv f⟩
    have J : Inv X pins σ (upd H1 d (.xd [(("name" : Str), v)])) ⟨G', g, dr, tk', os⟩ := I1.laid (t' := tk') old M.dbig ob
    refine ⟨e, oe, fv, ⟨G', g, dr, tk', os⟩, _, .ref C, some d, rfl, J, fun b o q => ?_, ge, hoe, ⟨hc, hd⟩, hdat, h1, ?_, rfl, I1.bare, raises_own T.exC T.tyC, q1 d (I1.hok.fresh M.dbig)⟩
    · by_cases hb : b = e
      · have q' : G'.get? b = some o := q
        rw [hb, ge] at q'; cases q'
      · exact (gk b hb).symm.trans q
    · rw [upd_ne (Ne.symm M.dne)]
      exact I1.hok.fresh M.new
/-- raise Low(e) -/
def tRaise_name (C : Addr) (W : WX) (ta : TA) : TS := fun _ σ H => tMk_name C ta σ H fun cls d H' => W cls d σ H'
theorem ps_raise_name {a : Expr} {ta : TA} {W : WX} {p pos pos2 : Pos} {k : Nat} (hc : X.calm = true) (T : PySem.OwnX_name.LowTxt X.K X.mg xc qi C fI) (hr : Room k X.A) (tk : Takes X W) (ha : PA X [a] ta) (hg : Gl X xc)
    (he : starEach (a :: []) X.env = (false, eval a X.env) :: starEach [] X.env := by rfl) (hpl : (backTo pos (starEach [] X.env)).any (·.1) = false := by rfl) :
    PS X (.Raise (some (.Call (.Name xc p) [a] [] pos)) none pos2) (tRaise_name C W ta) := ps_raise hc tk (pmk_low_name T hr ha hg he hpl)
/-- low.by, low the exception that the suite holds (at a; its class cls, its dict d) -/
def tBy_name (C : Addr) (a : Addr) (cls : Value) (d : Option Addr) (te : TE) : TE := fun σ H Q => te σ H fun x H1 => x = .ref a ∧ cls = .ref C ∧ ∃ (dd : Addr) (v : V), d = some dd ∧ H1 dd = some (.xd [(("name" : Str), v)]) ∧ Q v H1
theorem pe_by_name {a : Addr} {oe : Obj} {cls : Value} {d : Option Addr} {pn : List (Addr × Obj)} {e : Expr} {te : TE} {pos : Pos} (T : PySem.OwnX_name.LowTxt X.K X.mg xc qi C fI) (hz : Zc cls d oe) (hf : ∃ vs, oe.data = .fields vs) (he : PE (X.suite a ((a, oe) :: pn)) e te)
    (hb : attributeBase e "name" X.env (eval e X.env) = eval e X.env := by rfl) :
    PE (X.suite a ((a, oe) :: pn)) (.Attribute e "name" pos) (tBy_name C a cls d te) := by
  refine ⟨fun pins s σ H Q I h => ?_⟩
  refine attr_of hb (thn (he.run pins s σ H _ I h) fun u s1 hh => ?_)
  obtain ⟨x, H1, I1, rx, ex, ec, dd, v, ed, ea, q⟩ := hh
  subst ex
  obtain rfl : u = Value.ref a := rx
  subst ec
  subst ed
  obtain ⟨ha, _⟩ := I1.pin (a, oe) (List.mem_append_left _ List.mem_cons_self)
  obtain ⟨vs, hd⟩ := hf
  have hx : ObjOk X.prog X.w H1 s1.heap dd (.xd [(("name" : Str), v)]) := I1.hok dd _ ea
  obtain ⟨mA, hns, hr⟩ := hx
  obtain ⟨od, ho, hl⟩ := lookIn_ns hns
  have l : List.lookup ("name" : Str) [(("name" : Str), v)] = some v := by simp [List.lookup]
  obtain ⟨u, hu, ru⟩ := RelO.some_of (v := v) (o := mA "name") (by rw [← l]; exact hr "name")
  have J : PySem.W.InstAt s1.heap a oe C (some od) := ⟨ha, hz.1, by unfold PySem.W.notCls; rw [hd] <;> rfl, by rw [hz.2]; exact ho⟩
  exact HandSPX.exc_get I1.kIn J T.ga T.gg T.exC (PySem.W.findObj_own T.hdC T.noN rfl (by rw [hl, hu])) (handed_of ru) ⟨v, H1, I1.tok _, ru, q⟩
end
end L2

namespace PySem
namespace OwnX_wanted
open PySem.W PySem.Calls PyProof.Rows PySem.HandSPX
/-! ### the text of __init__ -/
def iA (p1 p2 : Pos) : Arguments := { posonlyargs := [], args := [{ arg := "self", annotation := none, pos := p1 }, { arg := "wanted", annotation := none, pos := p2 }], vararg := none, kwonlyargs := [], kw_defaults := [], kwarg := none, defaults := [] }
def iB (q1 q2 q3 q4 : Pos) : List Stmt := [.Assign [.Attribute (.Name "self" q1) "wanted" q2] (.Name "wanted" q3) q4]
def iS : Scope := { kind := .function, names := [(PySem.Str.ofString "self", .local), (PySem.Str.ofString "wanted", .local)], isGenerator := false, isCoroutine := false, more := [] }
/-- what the written part says of Low, at C, and of its __init__, at fI -/
structure LowTxt (K : Frag) (mg : Str → Option Value) (x qi : Str) (C fI : Addr) : Prop where
  gC : mg x = some (.ref C)
  hdb : (x == ("__debug__" : Str)) = false
  cls : ∃ nm q N bs bm sn sub ab col dd k0 k1 k2 k3 k5, K.lookup C = some (excClassObj nm q C N bs bm true sn sub ab col dd k0 k1 k2 k3 k5 "ValueError.__new__") ∧ refsVE bm = true
  sa : findIn K (.ref C) "__setattr__" = some (some (.builtin "object.__setattr__"))
  ga : findIn K (.ref C) "__getattribute__" = some (some (.builtin "BaseException.__getattribute__"))
  gg : findIn K (.ref C) "__getattr__" = some none
  noN : findIn K (.ref C) "wanted" = some none
  iC : findIn K (.ref C) "__init__" = some (some (.ref fI))
  tC : typeIn K (.ref fI) = some (.type "function")
  kC : keepIn K (.ref C) = true
  exC : subIn K (.ref C) (.type "BaseException") = some true
  tyC : typeIn K (.ref C) = some (.type "type")
  hdC : hasDictIn K C = true
  te : exmOne K (.ref C) (.ref C) = some true
  fn : ∃ (oc : Value) (od : Option Addr) (doc pm : Value) (an : Option Addr) (cdv ct : Value) (osl : Array (Option Value)) (p1 p2 q1 q2 q3 q4 : Pos),
    K.lookup fI = some ⟨oc, od, .func (fnOf "__init__" qi (iA p1 p2) (iB q1 q2 q3 q4) iS .none .none doc pm an cdv ct), osl⟩ ∧ codeIn K cdv qi = true
theorem one_size (v : Value) : [v].length ≤ sizeLine := by
  rw [sizeLine_eq]
  exact (by decide : 1 ≤ 16777216)
theorem kept_but {K : Frag} {h h' : Heap} {x : Addr} (X : K.In h) (hx : K.lookup x = none) (k : ∀ b o, b ≠ x → h.get? b = some o → h'.get? b = some o) : K.In h' := fun a o e =>
  k a o (fun z => by rw [z, hx] at e; cases e) (X a o e)
theorem ldC {M : Model} {s : Shared} {name : Str} {scope : Scope} {L a : Addr} {cd : Value} {m : Str → Option Value} {x : Str} {pos : Pos} {v : Value} {Q : Value → Shared → Prop} {A : Around} {E : Value → Shared → Prop} (hn : s.heap.Ns L m) (hv : m x = some v) (h : Q v s)
    (hk : scope.kind = .function := by rfl) (hl : (envOfC name scope L a cd).kindOf x = some .local := by rfl) (hd : (x == ("__debug__" : Str)) = false := by decide) :
    wpAny M A (eval (.Name x pos) (envOfC name scope L a cd)) Q E s := wpAny_Name (wpAny_loadName_local hk hl hn hv h) hd
/-- what __init__ leaves of a fresh exception at x -/
structure InitEnd (h h' : Heap) (x C dx t1 : Addr) (v : Value) : Prop where
  keep : ∀ b o, b ≠ x → h.get? b = some o → h'.get? b = some o
  obj : h'.get? x = some { cls := .ref C, dict := some dx, data := .fields #[.ref t1, .none, .none, .none, .bool false, .none] }
  dbig : h.objs.size ≤ dx
  dne : dx ≠ x
  ns : h'.Ns1 dx (fun y => if y = "wanted" then some v else none)
/-- a made Low -/
structure OwnMade (h h' : Heap) (e C d : Addr) (v : Value) : Prop where
  keep : ∀ b o, h.get? b = some o → h'.get? b = some o
  new : h.objs.size ≤ e
  obj : ∃ oe vs, h'.get? e = some oe ∧ oe.cls = .ref C ∧ oe.dict = some d ∧ oe.data = .fields vs ∧ vs[1]? = some .none
  dbig : h.objs.size ≤ d
  dne : d ≠ e
  ns : h'.Ns1 d (fun y => if y = "wanted" then some v else none)
section
variable {prog : Program} {w : World} {A : Around} {E : Value → Shared → Prop} {R : Result → Shared → Prop} {s : Shared} {K : Frag} {mg : Str → Option Value} {C fI : Addr} {xc qi : Str}
theorem low_init (T : LowTxt K mg xc qi C fI) {x t0 : Addr} {v : Value} (X : K.In s.heap) (hlim : s.heap.NoLimit) (hx : s.heap.get? x = some (excO C t0)) (hnx : K.lookup x = none) (hroom : A.depth < recursionLimit)
    (hq : ∀ h' tk dx, InitEnd s.heap h' x C dx t0 v → R (.ok (.ret .none)) { s with heap := h', toks := tk }) :
    codeAny (model prog w) A (.call (.ref fI) ⟨[.ref x, v], []⟩) R s := by
  obtain ⟨oc, od, doc, pm, an, cdv, ct, osl, p1, p2, q1, q2, q3, q4, ho, hcd⟩ := T.fn
  obtain ⟨nm, q, N, bs, bm, sn, sub, ab, col, dd, k0, k1, k2, k3, k5, hC, hbm⟩ := T.cls
  have hcl : clsIn K C = some { name := nm, bases := bs, mro := .ref C :: bm, ns := N, qualname := q, hasDict := true, slotNames := sn, subclasses := sub, abstract := ab, collection := col, hasDel := false } := by unfold clsIn; rw [hC] <;> rfl
  refine Att.call_fn (binds := [("self", .ref x), ("wanted", v)]) X hlim ho hcd hroom (BindsTo.of_eq (by first | rfl | with_unfolding_all rfl)) (by first | rfl | decide | with_unfolding_all rfl) (fun s₁ IC => ?_) rfl rfl rfl
  obtain ⟨h₁, tk₁, rfl⟩ := IC.toInCall.same
  have k : ∀ b o, s.heap.get? b = some o → h₁.get? b = some o := IC.toInCall.keep
  have hn := IC.toInCall.ns
  have hxL : s.heap.objs.size ≠ x := Nat.ne_of_gt (Heap.lt_size hx)
  have X₁ : K.In h₁ := X.keeps k
  have hx₁ := k _ _ hx
  -- self.by = by
  show wpAny _ _ (execs _ _) _ _ _
  refine wpAny_execs_cons (plainObj_wpAny_Assign_Attribute ?_)
  refine ldC (v := v) hn (by first | rfl | with_unfolding_all rfl | kernel_rfl) (ldC (v := .ref x) hn (by first | rfl | with_unfolding_all rfl | kernel_rfl) ?_)
  refine set_plain X₁ (ox := excO C t0) (od := none) ⟨hx₁, rfl, rfl, trivial⟩ T.sa ?_
  refine exc_osa X₁ hx₁ hcl (show refsVE (.ref C :: bm) = true from hbm) rfl T.noN (fun h₃ tk₃ dx k₃ dn dne hx₃ hn₃ => ?_)
  show wpAny _ _ (execs _ _) _ _ _
  have z : s.heap.objs.size < h₁.objs.size := hn.lt
  exact wpAny_execs_nil (hq h₃ tk₃ dx ⟨fun b o hb e => k₃ b o hb (k b o e), hx₃, Nat.le_of_lt (Nat.lt_of_lt_of_le z dn), dne, hn₃⟩)
theorem low_made (T : LowTxt K mg xc qi C fI) {v : Value} (X : K.In s.heap) (hlim : s.heap.NoLimit) (hroom : A.depth + 1 < recursionLimit)
    (hq : ∀ h' tk e d, OwnMade s.heap h' e C d v → R (.ok (.ret (.ref e))) { s with heap := h', toks := tk }) :
    codeAny (model prog w) A (.call (.ref C) ⟨[v], []⟩) R s := by
  obtain ⟨nm, q, N, bs, bm, sn, sub, ab, col, dd, k0, k1, k2, k3, k5, hC, hbm⟩ := T.cls
  obtain ⟨hp, g, dr, tk, os⟩ := s
  have k : ∀ b o, hp.get? b = some o → ((hp.push (kdv_tup [v])).push (excO C hp.objs.size)).get? b = some o := fun b o e => Heap.get?_push_of_some _ (Heap.get?_push_of_some _ e)
  have hget : ((hp.push (kdv_tup [v])).push (excO C hp.objs.size)).get? (hp.objs.size + 1) = some (excO C hp.objs.size) := by heap_get
  have hnx : K.lookup (hp.objs.size + 1) = none := by
    cases e : K.lookup (hp.objs.size + 1) with
    | none => rfl
    | some o =>
      have z : hp.get? (hp.objs.size + 1) = some o := X _ _ e
      exact absurd (Nat.lt_of_succ_lt (Heap.lt_size z)) (Nat.lt_irrefl _)
  refine call_own F.excBase_ValueError (fun X => refsVE_contains X bm hbm) (X _ _ hC) (looks_findIn X T.iC) (fun self => bind_fn X self T.tC) (one_size v) ?_
  refine low_init (s := ⟨(hp.push (kdv_tup [v])).push (excO C hp.objs.size), g, dr, tk, os⟩) T (X.keeps k) (hlim.keeps k) hget hnx ?_ fun h' tk' dx ⟨k', hx, dn, dne, hns⟩ => ?_
  · show A.depth + 1 < recursionLimit
    exact hroom
  · have old : ∀ b o, hp.get? b = some o → h'.get? b = some o := fun b o e => k' b o (Nat.ne_of_lt (Nat.lt_succ_of_lt (Heap.lt_size e))) (k b o e)
    have z : hp.objs.size + 1 + 1 ≤ dx := by
      first
        | (simpa only [Heap.size_push] using dn)
        | exact dn
        | (have q := dn; rw [Heap.size_push, Heap.size_push] at q; exact q)
    exact ⟨rfl, hq h' tk' (hp.objs.size + 1) dx ⟨old, Nat.le_succ _, ⟨_, _, hx, rfl, rfl, rfl, rfl⟩, Nat.le_trans (Nat.le_trans (Nat.le_succ _) (Nat.le_succ _)) z, dne, hns⟩⟩
end
end OwnX_wanted
end PySem
namespace L2
open PySem PySem.Spec PyProof.Rows
theorem relO_low_wanted {v : V} {v' : Value} (r : RelV v v') (f : Str) : RelO (List.lookup f [(("wanted" : Str), v)]) (if f = "wanted" then some v' else none) := by
  by_cases hw : f = "wanted"
  · subst hw
    rw [if_pos rfl]
    have q : List.lookup ("wanted" : Str) [(("wanted" : Str), v)] = some v := by simp [List.lookup]
    rw [q]
    exact r
  · rw [if_neg hw]
    have qw : (f == ("wanted" : Str)) = false := by simpa using hw
    have q2 : List.lookup f [(("wanted" : Str), v)] = none := by simp [List.lookup, qw]
    rw [q2]
    trivial
section
variable {X : Cx} {C fI : Addr} {xc qi : Str}
/-- Low(e) -/
def tMk_wanted (C : Addr) (ta : TA) : St → Hp → XK → Prop := fun σ H Q => ta σ H fun vs H1 => ∃ v, vs = [v] ∧ ∀ d, H1 d = none → Q (.ref C) (some d) (upd H1 d (.xd [(("wanted" : Str), v)]))
theorem pmk_low_wanted {a : Expr} {ta : TA} {p pos : Pos} {k : Nat} (T : PySem.OwnX_wanted.LowTxt X.K X.mg xc qi C fI) (hr : Room k X.A) (ha : PA X [a] ta) (hg : Gl X xc)
    (he : starEach (a :: []) X.env = (false, eval a X.env) :: starEach [] X.env := by rfl) (hpl : (backTo pos (starEach [] X.env)).any (·.1) = false := by rfl) :
    PMk X (.Call (.Name xc p) [a] [] pos) (tMk_wanted C ta) := by
  intro pins s σ H Q I h
  refine wpAny_Call_Name_kw (ld_glob I hg T.gC ?_ T.hdb)
  refine PySem.W.callWith_K (h₀ := X.base) I.ok.mod.kin T.kC (thn (ha.run pos pins s σ H _ I h) fun us s1 hh => ?_) he hpl
  obtain ⟨vs, H1, I1, r1, v, ev, q1⟩ := hh
  subst ev
  refine ⟨I1.kIn, ?_⟩
  cases r1 with
  | cons rv rn =>
    rename_i v' us'
    cases rn
    show wpAny _ _ (call (.ref C) [v']) _ _ _
    have hlim := I1.nolimit
    obtain ⟨hp, g, dr, tk, os⟩ := s1
    refine wpAny_call (PySem.OwnX_wanted.low_made T I1.kIn hlim (by have := hr.dp; omega) fun h' tk' e d M => ?_)
    show MkP X pins σ Q (.ref e) ⟨h', g, dr, tk', os⟩
    obtain ⟨oe, fv, hoe, hc, hd, hdat, h1⟩ := M.obj
    have hns := M.ns
    obtain ⟨G', g1, g2⟩ := restrict h' fun b => decide (b ≠ e)
    have gk : ∀ b, b ≠ e → G'.get? b = h'.get? b := fun b hb => g1 b (decide_eq_true hb)
    have ge : G'.get? e = none := g2 e (by simp)
    have old : ∀ b o, hp.get? b = some o → G'.get? b = some o := fun b o q => (gk b (Nat.ne_of_lt (Nat.lt_of_lt_of_le (Heap.lt_size q) M.new))).trans (M.keep b o q)
    have ob : ObjOk X.prog X.w (upd H1 d (.xd [(("wanted" : Str), v)])) G' d (.xd [(("wanted" : Str), v)]) :=
      ⟨_, hns.at (fun o q => (gk d M.dne).trans q), fun f => relO_low_wanted rv f⟩
    have J : Inv X pins σ (upd H1 d (.xd [(("wanted" : Str), v)])) ⟨G', g, dr, tk', os⟩ := I1.laid (t' := tk') old M.dbig ob
    refine ⟨e, oe, fv, ⟨G', g, dr, tk', os⟩, _, .ref C, some d, rfl, J, fun b o q => ?_, ge, hoe, ⟨hc, hd⟩, hdat, h1, ?_, rfl, I1.bare, raises_own T.exC T.tyC, q1 d (I1.hok.fresh M.dbig)⟩
    · by_cases hb : b = e
      · have q' : G'.get? b = some o := q
        rw [hb, ge] at q'; cases q'
      · exact (gk b hb).symm.trans q
    · rw [upd_ne (Ne.symm M.dne)]
      exact I1.hok.fresh M.new
/-- raise Low(e) -/
def tRaise_wanted (C : Addr) (W : WX) (ta : TA) : TS := fun _ σ H => tMk_wanted C ta σ H fun cls d H' => W cls d σ H'
theorem ps_raise_wanted {a : Expr} {ta : TA} {W : WX} {p pos pos2 : Pos} {k : Nat} (hc : X.calm = true) (T : PySem.OwnX_wanted.LowTxt X.K X.mg xc qi C fI) (hr : Room k X.A) (tk : Takes X W) (ha : PA X [a] ta) (hg : Gl X xc)
    (he : starEach (a :: []) X.env = (false, eval a X.env) :: starEach [] X.env := by rfl) (hpl : (backTo pos (starEach [] X.env)).any (·.1) = false := by rfl) :
    PS X (.Raise (some (.Call (.Name xc p) [a] [] pos)) none pos2) (tRaise_wanted C W ta) := ps_raise hc tk (pmk_low_wanted T hr ha hg he hpl)
/-- low.by, low the exception that the suite holds (at a; its class cls, its dict d) -/
def tBy_wanted (C : Addr) (a : Addr) (cls : Value) (d : Option Addr) (te : TE) : TE := fun σ H Q => te σ H fun x H1 => x = .ref a ∧ cls = .ref C ∧ ∃ (dd : Addr) (v : V), d = some dd ∧ H1 dd = some (.xd [(("wanted" : Str), v)]) ∧ Q v H1
theorem pe_by_wanted {a : Addr} {oe : Obj} {cls : Value} {d : Option Addr} {pn : List (Addr × Obj)} {e : Expr} {te : TE} {pos : Pos} (T : PySem.OwnX_wanted.LowTxt X.K X.mg xc qi C fI) (hz : Zc cls d oe) (hf : ∃ vs, oe.data = .fields vs) (he : PE (X.suite a ((a, oe) :: pn)) e te)
    (hb : attributeBase e "wanted" X.env (eval e X.env) = eval e X.env := by rfl) :
    PE (X.suite a ((a, oe) :: pn)) (.Attribute e "wanted" pos) (tBy_wanted C a cls d te) := by
  refine ⟨fun pins s σ H Q I h => ?_⟩
  refine attr_of hb (thn (he.run pins s σ H _ I h) fun u s1 hh => ?_)
  obtain ⟨x, H1, I1, rx, ex, ec, dd, v, ed, ea, q⟩ := hh
  subst ex
  obtain rfl : u = Value.ref a := rx
  subst ec
  subst ed
  obtain ⟨ha, _⟩ := I1.pin (a, oe) (List.mem_append_left _ List.mem_cons_self)
  obtain ⟨vs, hd⟩ := hf
  have hx : ObjOk X.prog X.w H1 s1.heap dd (.xd [(("wanted" : Str), v)]) := I1.hok dd _ ea
  obtain ⟨mA, hns, hr⟩ := hx
  obtain ⟨od, ho, hl⟩ := lookIn_ns hns
  have l : List.lookup ("wanted" : Str) [(("wanted" : Str), v)] = some v := by simp [List.lookup]
  obtain ⟨u, hu, ru⟩ := RelO.some_of (v := v) (o := mA "wanted") (by rw [← l]; exact hr "wanted")
  have J : PySem.W.InstAt s1.heap a oe C (some od) := ⟨ha, hz.1, by unfold PySem.W.notCls; rw [hd] <;> rfl, by rw [hz.2]; exact ho⟩
  exact HandSPX.exc_get I1.kIn J T.ga T.gg T.exC (PySem.W.findObj_own T.hdC T.noN rfl (by rw [hl, hu])) (handed_of ru) ⟨v, H1, I1.tok _, ru, q⟩
end
end L2

namespace L2
open PySem PySem.Spec PyProof.Rows
/-- C(), an own class of exceptions without an __init__ of its own -/
theorem pmk_bare {X : Cx} {C : Addr} {bmB : List Value} {B newId initId : String} {x : Str} {p pos : Pos} (F : ExcBaseFacts B newId initId bmB) (q : PySem.W.excIn X.K C bmB newId = true) (gC : X.mg x = some (.ref C)) (kC : PySem.W.keepIn X.K (.ref C) = true) (r : Raises X (.ref C)) (hg : Gl X x)
    (hdb : (x == ("__debug__" : Str)) = false) : PMk X (.Call (.Name x p) [] [] pos) (fun _ H Q => Q (.ref C) none H) := by
  intro pins s σ H Q I h
  refine wpAny_Call_Name_kw (ld_glob I hg gC ?_ hdb)
  refine PySem.W.callWith_K0 I.kIn kC ?_
  show wpAny _ _ (call (.ref C) []) _ _ _
  obtain ⟨bm, N, nm, qn, bs, hdct, sn, sub, ab, col, dd, k0, k1, k2, k3, k5, mN, hC, hN, hni, T⟩ := exc_obj I.kIn q
  refine wpAny_call_exc_subT F T hC hN hni (fun h' e hm => ?_) (Nat.zero_le _)
  exact mk_of I hm r h (I.hok.gone hm.new)
theorem ps_raise_bare {X : Cx} {C : Addr} {bmB : List Value} {B newId initId : String} {x : Str} {p pos pos2 : Pos} {W : WX} (hc : X.calm = true) (tk : Takes X W) (F : ExcBaseFacts B newId initId bmB) (q : PySem.W.excIn X.K C bmB newId = true) (gC : X.mg x = some (.ref C)) (kC : PySem.W.keepIn X.K (.ref C) = true) (r : Raises X (.ref C)) (hg : Gl X x)
    (hdb : (x == ("__debug__" : Str)) = false) : PS X (.Raise (some (.Call (.Name x p) [] [] pos)) none pos2) (fun _ σ H => W (.ref C) none σ H) :=
  ps_raise hc tk (pmk_bare F q gC kC r hg hdb)
end L2

set_option Elab.async false
set_option linter.all false
set_option maxRecDepth 100000
set_option maxHeartbeats 4000000
/-! Orders of data that are unlike only behind the first place that tells them apart (ids' keys): < of tuples, sorting by such keys. -/
namespace OrdD
open PySem PySem.SeqAt PySem.W PyProof.Rows
open AutoSeq1 (wpAny_loadPart')
open MeetsSeq MeetsSeq2 MeetsSeq3 SeqRoads2

section
/-- t < u where the items are asked for their order at the first unlike place alone -/
theorem tuple_lt1 (p q : Addr) (us ws : Array Value) (cn cm : Nat) (dp dq : Option Addr) (sp sq : Array (Option Value)) (eqs les : Nat → Bool) :
    Meets (Builtin.«tuple.__lt__» ⟨[.ref p, .ref q], []⟩)
      (fun A R s => s.heap.get? p = some { cls := .type "tuple", dict := dp, data := .seq us cn, slots := sp } ∧ s.heap.get? q = some { cls := .type "tuple", dict := dq, data := .seq ws cm, slots := sq } ∧
        (∀ k (hu : k < us.size) (hw : k < ws.size), EqAt A.in1 s us[k] ws[k] (eqs k)) ∧
        (∀ k (hu : k < us.size) (hw : k < ws.size), (∀ i, i < k → eqs i = true) → eqs k = false → RcLt A.in1 s us[k] ws[k] (les k)) ∧
        R (.ok (.ret (.bool (firstLt eqs les (decide (us.size < ws.size)) (List.range (min us.size ws.size)))))) s) :=
  .of_wp fun prog w A R s h => by
    obtain ⟨hp, g, dr, tk, os⟩ := s
    obtain ⟨hl, hb, he, hr, h⟩ := h
    have sub := AutoSeq1.sub_tuple_tuple
    have len : (us.toList.zip ws.toList).length = min us.size ws.size := by simp
    wp_walk using wpAny_loadPart' hl, wpAny_loadPart' hb, wpAny_forIn_list _ (fun todo acc s1 => acc.1 = none ∧ s1 = ⟨hp, g, dr, tk, os⟩ ∧ ∃ k, todo = (us.toList.zip ws.toList).drop k ∧ (∀ i, i < k → eqs i = true) ∧
      R (.ok (.ret (.bool (firstLt eqs les (decide (us.size < ws.size)) ((List.range (min us.size ws.size)).drop k))))) ⟨hp, g, dr, tk, os⟩) _
    case turn =>
      rintro ⟨y, x⟩ todo acc s1 ⟨ha, rfl, k, hz, hk, hR⟩
      have lt1 : k < (us.toList.zip ws.toList).length := by
        refine Nat.lt_of_not_le fun z => ?_
        rw [List.drop_of_length_le z] at hz
        cases hz
      have lt2 : k < min us.size ws.size := len ▸ lt1
      have ku : k < us.size := Nat.lt_of_lt_of_le lt2 (Nat.min_le_left _ _)
      have kw : k < ws.size := Nat.lt_of_lt_of_le lt2 (Nat.min_le_right _ _)
      rw [List.drop_eq_getElem_cons lt1] at hz
      injection hz with z1 z2
      obtain rfl : y = us[k] := by simpa using congrArg Prod.fst z1
      obtain rfl : x = ws[k] := by simpa using congrArg Prod.snd z1
      rw [show (List.range (min us.size ws.size)).drop k = k :: (List.range (min us.size ws.size)).drop (k + 1) from by simp [List.drop_eq_getElem_cons, lt2]] at hR
      refine wpAny_bind (he k ku kw prog w _ _ ?_)
      cases hy : eqs k with
      | true =>
        rw [firstLt_yes hy] at hR
        wp_walk
        exact ⟨rfl, rfl, k + 1, z2, fun i hi => by
          rcases Nat.lt_or_ge i k with q | q
          · exact hk i q
          · rw [show i = k from by omega]; exact hy, hR⟩
      | false =>
        rw [firstLt_no hy] at hR
        have less := hr k ku kw hk hy prog w
        wp_walk using less
        exact ⟨_, rfl, by simpa using hR⟩
    case fin =>
      rintro ⟨a1, a2⟩ s1 ⟨ha, rfl, k, hz, hk, hR⟩
      simp only at ha
      subst ha
      have ge : min us.size ws.size ≤ k := by
        refine Nat.le_of_not_lt fun z => ?_
        rw [List.drop_eq_getElem_cons (len ▸ z)] at hz
        cases hz
      rw [List.drop_of_length_le (by simpa using ge)] at hR
      wp_walk
      exact ⟨_, rfl, by simpa [Builtin.Tuple.tupleCompareSizes, firstLt] using hR⟩
    case h =>
      exact ⟨rfl, rfl, 0, rfl, fun i hi => absurd hi (Nat.not_lt_zero i), by simpa using h⟩
end

theorem lt_tuples {A : Around} {s : Shared} {p q : Addr} {us ws : Array Value} {eqs les : Nat → Bool} (hp : s.heap.IsTuple p us) (hq : s.heap.IsTuple q ws) (room : A.units < cLine)
    (he : ∀ k (hu : k < us.size) (hw : k < ws.size), EqAt A.in1 s us[k] ws[k] (eqs k)) (hr : ∀ k (hu : k < us.size) (hw : k < ws.size), (∀ i, i < k → eqs i = true) → eqs k = false → RcLt A.in1 s us[k] ws[k] (les k)) :
    RcLt A s (.ref p) (.ref q) (firstLt eqs les (decide (us.size < ws.size)) (List.range (min us.size ws.size))) := fun prog w E Q z => by
  obtain ⟨⟨c1, d1, t1, s1⟩, o1, e1, n1, f1⟩ := id hp
  obtain ⟨⟨c2, d2, t2, s2⟩, o2, e2, n2, f2⟩ := id hq
  simp only at e1 f1 e2 f2
  subst e1 f1 e2 f2
  have nn : Value.bool (firstLt eqs les (decide (us.size < ws.size)) (List.range (min us.size ws.size))) ≠ Value.notImplemented := fun x => nomatch x
  exact richCompare_meets_room (op := .Lt) ⟨_, o1, rfl⟩ ⟨_, o2, rfl⟩ F.slot_tuple_lt F.entry_tuple_lt (F.args_tuple_lt_2 _ _) (tuple_lt1 p q us ws n1 n2 d1 d2 s1 s2 eqs les) ⟨o1, o2, he, hr, nn, z⟩ room

/-! ### data that can be compared -/
mutual
def cmpOk : PyData → PyData → Bool
  | .int _, .int _ => true
  | .str _, .str _ => true
  | .tuple xs, .tuple ys => cmpOkL xs ys
  | _, _ => false
def cmpOkL : List PyData → List PyData → Bool
  | x :: xs, y :: ys => if PyData.eqv x y = true then cmpOkL xs ys else cmpOk x y
  | [], _ => true
  | _ :: _, [] => true
end

mutual
theorem toks_same : ∀ (x y : PyData), x.plain = true → y.plain = true → PyData.eqv x y = true → keyToks x = keyToks y
  | .none, y, _, py, e => by cases y <;> first | rfl | (simp [PyData.eqv] at e; done)
  | .bool a, y, _, py, e => by
    cases y <;> first | (simp [PyData.eqv] at e; done) | skip
    · rename_i b
      have : a = b := by simpa [PyData.eqv] using e
      rw [this]
    · rename_i i
      simp [PyData.eqv] at e
      simp [keyToks, ← e]
  | .int a, y, _, py, e => by
    cases y <;> first | (simp [PyData.eqv] at e; done) | skip
    · rename_i b
      simp [PyData.eqv] at e
      simp [keyToks, ← e]
    · rename_i b
      have : a = b := by simpa [PyData.eqv] using e
      rw [this]
  | .str a, y, _, py, e => by
    cases y <;> first | (simp [PyData.eqv] at e; done) | skip
    rename_i b
    have : a = b := by simpa [PyData.eqv] using e
    rw [this]
  | .list xs, y, px, py, e => by
    cases y <;> first | (simp [PyData.eqv] at e; done) | skip
    rename_i ys
    simp only [keyToks]
    exact toksL_same xs ys (by simpa [PyData.plain] using px) (by simpa [PyData.plain] using py) (by simpa [PyData.eqv] using e)
  | .tuple xs, y, px, py, e => by
    cases y <;> first | (simp [PyData.eqv] at e; done) | skip
    rename_i ys
    simp only [keyToks]
    exact toksL_same xs ys (by simpa [PyData.plain] using px) (by simpa [PyData.plain] using py) (by simpa [PyData.eqv] using e)
  | .dict _, y, px, py, e => by simp [PyData.plain] at px
theorem toksL_same : ∀ (xs ys : List PyData), PyData.plainAll xs = true → PyData.plainAll ys = true → PyData.eqvAll xs ys = true → keyToksAll xs = keyToksAll ys
  | [], [], _, _, _ => rfl
  | [], _ :: _, _, _, e => by simp [PyData.eqvAll] at e
  | _ :: _, [], _, _, e => by simp [PyData.eqvAll] at e
  | x :: xs, y :: ys, px, py, e => by
    have e' : PyData.eqv x y = true ∧ PyData.eqvAll xs ys = true := by simpa [PyData.eqvAll] using e
    have px' : x.plain = true ∧ PyData.plainAll xs = true := by simpa [PyData.plainAll] using px
    have py' : y.plain = true ∧ PyData.plainAll ys = true := by simpa [PyData.plainAll] using py
    rw [toks_all_cons, toks_all_cons, toks_same x y px'.1 py'.1 e'.1, toksL_same xs ys px'.2 py'.2 e'.2]
end
mutual
theorem toks_first : ∀ (x y : PyData), x.plain = true → y.plain = true → cmpOk x y = true → PyData.eqv x y = false → ∀ l m, lexLt itemOrd (keyToks x ++ l) (keyToks y ++ m) = lexLt itemOrd (keyToks x) (keyToks y)
  | .int a, y, px, py, c, e, l, m => by
    cases y <;> first | (simp [cmpOk] at c; done) | skip
    rename_i b
    have ne : a ≠ b := fun q => by subst q; simp [PyData.eqv] at e
    simp only [keyToks, List.cons_append, List.nil_append]
    exact lex_atom (fun q => ne (Sum.inl.inj q)) l m
  | .str a, y, px, py, c, e, l, m => by
    cases y <;> first | (simp [cmpOk] at c; done) | skip
    rename_i b
    have ne : a ≠ b := fun q => by subst q; simp [PyData.eqv] at e
    simp only [keyToks, List.cons_append, List.nil_append]
    exact lex_atom (fun q => ne (str_of_cps (Sum.inr.inj q))) l m
  | .tuple xs, y, px, py, c, e, l, m => by
    cases y <;> first | (simp [cmpOk] at c; done) | skip
    rename_i ys
    simp only [keyToks]
    exact toksL_first xs ys (by simpa [PyData.plain] using px) (by simpa [PyData.plain] using py) (by simpa [cmpOk] using c) (by simpa [PyData.eqv] using e) l m
  | .none, _, _, _, c, _, _, _ => by simp [cmpOk] at c
  | .bool _, _, _, _, c, _, _, _ => by simp [cmpOk] at c
  | .list _, _, _, _, c, _, _, _ => by simp [cmpOk] at c
  | .dict _, _, _, _, c, _, _, _ => by simp [cmpOk] at c
theorem toksL_first : ∀ (xs ys : List PyData), PyData.plainAll xs = true → PyData.plainAll ys = true → cmpOkL xs ys = true → PyData.eqvAll xs ys = false → ∀ l m, lexLt itemOrd (keyToksAll xs ++ l) (keyToksAll ys ++ m) = lexLt itemOrd (keyToksAll xs) (keyToksAll ys)
  | [], [], _, _, _, e, _, _ => by simp [PyData.eqvAll] at e
  | [], y :: ys, _, _, _, _, l, m => by
    simp only [keyToksAll, List.cons_append, List.nil_append]
    exact (lex_atom (by simp) _ _).trans (lex_atom (by simp) _ _).symm
  | x :: xs, [], _, _, _, _, l, m => by
    simp only [keyToksAll, List.cons_append, List.nil_append]
    exact (lex_atom (by simp) _ _).trans (lex_atom (by simp) _ _).symm
  | x :: xs, y :: ys, px, py, c, e, l, m => by
    have px' : x.plain = true ∧ PyData.plainAll xs = true := by simpa [PyData.plainAll] using px
    have py' : y.plain = true ∧ PyData.plainAll ys = true := by simpa [PyData.plainAll] using py
    rw [eqv_all_cons] at e
    rw [toks_all_cons, toks_all_cons]
    simp only [cmpOkL] at c
    simp only [List.cons_append, List.append_assoc]
    rw [lex_self (O := itemOrd), lex_self (O := itemOrd)]
    cases hx : PyData.eqv x y with
    | true =>
      rw [hx, if_pos rfl] at c
      rw [hx, Bool.true_and] at e
      rw [toks_same x y px'.1 py'.1 hx, lex_pre, lex_pre]
      exact toksL_first xs ys px'.2 py'.2 c e l m
    | false =>
      rw [hx, if_neg Bool.false_ne_true] at c
      have z := toks_first x y px'.1 py'.1 c hx
      rw [z, z]
end
theorem lexL_yes {x y : PyData} {xs ys : List PyData} (px : x.plain = true) (py : y.plain = true) (e : PyData.eqv x y = true) : lexLt itemOrd (keyToksAll (x :: xs)) (keyToksAll (y :: ys)) = lexLt itemOrd (keyToksAll xs) (keyToksAll ys) := by
  rw [toks_all_cons, toks_all_cons, toks_same x y px py e, lex_self (O := itemOrd), lex_pre]
theorem lexL_no {x y : PyData} {xs ys : List PyData} (px : x.plain = true) (py : y.plain = true) (c : cmpOk x y = true) (e : PyData.eqv x y = false) : lexLt itemOrd (keyToksAll (x :: xs)) (keyToksAll (y :: ys)) = dataLt x y := by
  rw [toks_all_cons, toks_all_cons, lex_self (O := itemOrd), toks_first x y px py c e]
  rfl

theorem first_toks : ∀ (xs ys : List PyData), PyData.plainAll xs = true → PyData.plainAll ys = true → cmpOkL xs ys = true →
    firstLt (pairEq xs ys) (fun k => dataLt (xs.getD k .none) (ys.getD k .none)) (decide (xs.length < ys.length)) (List.range (min xs.length ys.length)) = lexLt itemOrd (keyToksAll xs) (keyToksAll ys)
  | [], [], _, _, _ => by simp [firstLt, keyToksAll, lex_irrefl]
  | [], y :: ys, _, _, _ => by
    rw [toks_all_cons]
    simp only [keyToksAll]
    rw [lex_diff (O := itemOrd) (by simp)]
    simp [firstLt, itemLt]
  | x :: xs, [], _, _, _ => by
    rw [toks_all_cons]
    simp only [keyToksAll]
    rw [lex_diff (O := itemOrd) (by simp)]
    simp [firstLt, itemLt]
  | x :: xs, y :: ys, px, py, c => by
    have px' : x.plain = true ∧ PyData.plainAll xs = true := by simpa [PyData.plainAll] using px
    have py' : y.plain = true ∧ PyData.plainAll ys = true := by simpa [PyData.plainAll] using py
    have em : min (x :: xs).length (y :: ys).length = min xs.length ys.length + 1 := by simp only [List.length_cons]; omega
    have ed : decide ((x :: xs).length < (y :: ys).length) = decide (xs.length < ys.length) := by simp only [List.length_cons, Nat.add_lt_add_iff_right]
    rw [em, ed, List.range_succ_eq_map]
    simp only [cmpOkL] at c
    cases hx : PyData.eqv x y with
    | true =>
      rw [hx, if_pos rfl] at c
      rw [firstLt_yes (show pairEq (x :: xs) (y :: ys) 0 = true from hx), firstLt_map, lexL_yes px'.1 py'.1 hx, ← first_toks xs ys px'.2 py'.2 c]
      rfl
    | false =>
      rw [hx, if_neg Bool.false_ne_true] at c
      rw [firstLt_no (show pairEq (x :: xs) (y :: ys) 0 = false from hx), lexL_no px'.1 py'.1 c hx]
      rfl

/-- at the first unlike place -/
theorem cmpOk_at : ∀ (xs ys : List PyData) (k : Nat), cmpOkL xs ys = true → k < xs.length → k < ys.length → (∀ i, i < k → pairEq xs ys i = true) → pairEq xs ys k = false → cmpOk (xs.getD k .none) (ys.getD k .none) = true
  | [], _, _, _, h, _, _, _ => absurd h (Nat.not_lt_zero _)
  | _ :: _, [], _, _, _, h, _, _ => absurd h (Nat.not_lt_zero _)
  | x :: xs, y :: ys, 0, c, _, _, _, e => by
    have e' : PyData.eqv x y = false := e
    simp only [cmpOkL] at c
    rw [e', if_neg Bool.false_ne_true] at c
    exact c
  | x :: xs, y :: ys, k + 1, c, h1, h2, hk, e => by
    have e0 : PyData.eqv x y = true := hk 0 (Nat.succ_pos k)
    simp only [cmpOkL] at c
    rw [e0, if_pos rfl] at c
    exact cmpOk_at xs ys k c (Nat.lt_of_succ_lt_succ h1) (Nat.lt_of_succ_lt_succ h2) (fun i hi => hk (i + 1) (Nat.succ_lt_succ hi)) e

theorem plain_at {xs : List PyData} (h : PyData.plainAll xs = true) : ∀ k, k < xs.length → (xs.getD k .none).plain = true := by
  induction xs with
  | nil => intro k hk; exact absurd hk (Nat.not_lt_zero k)
  | cons x xs ih =>
    have h' : x.plain = true ∧ PyData.plainAll xs = true := by simpa [PyData.plainAll] using h
    intro k hk
    cases k with
    | zero => exact h'.1
    | succ k => exact ih h'.2 k (Nat.lt_of_succ_lt_succ hk)
theorem depth_at : ∀ (xs : List PyData) (k : Nat), k < xs.length → (xs.getD k .none).depth ≤ PyData.depthAll xs
  | [], k, h => absurd h (Nat.not_lt_zero k)
  | x :: xs, 0, _ => by simp only [PyData.depthAll]; exact Nat.le_max_left _ _
  | x :: xs, k + 1, h => by simp only [PyData.depthAll]; exact Nat.le_trans (depth_at xs k (Nat.lt_of_succ_lt_succ h)) (Nat.le_max_right _ _)
theorem reads_at {h : Heap} : ∀ (xs : List PyData) (vs : List Value) (as : List Addr), ReadsAll h vs xs as → ∀ (k : Nat) (hk : k < vs.length), ∃ bs, Reads h vs[k] (xs.getD k .none) bs
  | [], _, _, r, k, hk => by cases r; exact absurd hk (Nat.not_lt_zero k)
  | x :: xs, _, _, r, k, hk => by
    cases r with
    | cons r1 r2 =>
      cases k with
      | zero => exact ⟨_, r1⟩
      | succ k => exact reads_at xs _ _ r2 k (Nat.lt_of_succ_lt_succ hk)

/-- x < y -/
theorem rcLt_cmp : ∀ (n : Nat) (x y : PyData) (A : Around) (s : Shared) (a b : Value) (as bs : List Addr), x.depth ≤ n → Reads s.heap a x as → Reads s.heap b y bs → x.plain = true → y.plain = true → cmpOk x y = true → A.units + n < cLine → RcLt A s a b (dataLt x y)
  | n, .int i, y, A, s, a, b, as, bs, hn, ra, rb, px, py, c, hu => by
    cases y <;> first | (simp [cmpOk] at c; done) | skip
    cases ra
    cases rb
    intro prog w E Q hq
    rw [dataLt_int] at hq
    exact P.lt_int hq
  | n, .str i, y, A, s, a, b, as, bs, hn, ra, rb, px, py, c, hu => by
    cases y <;> first | (simp [cmpOk] at c; done) | skip
    cases ra
    cases rb
    intro prog w E Q hq
    rw [dataLt_str] at hq
    exact P.lt_str hq
  | 0, .tuple xs, y, A, s, a, b, as, bs, hn, ra, rb, px, py, c, hu => by simp [PyData.depth] at hn
  | n + 1, .tuple xs, y, A, s, a, b, as, bs, hn, ra, rb, px, py, c, hu => by
    cases y <;> first | (simp [cmpOk] at c; done) | skip
    rename_i ys
    have cL : cmpOkL xs ys = true := by simpa [cmpOk] using c
    have pX : PyData.plainAll xs = true := by simpa [PyData.plain] using px
    have pY : PyData.plainAll ys = true := by simpa [PyData.plain] using py
    have dX : PyData.depthAll xs ≤ n := by simp only [PyData.depth] at hn; omega
    have in1 : A.in1.units = A.units + 1 := rfl
    cases ra with
    | @tuple l o vs m _ as1 h1 h2 h3 h4 =>
      cases rb with
      | @tuple l' o' vs' m' _ bs1 k1 k2 k3 k4 =>
        have n1 : vs.size = xs.length := by simpa using ReadsAll.length _ _ _ h4
        have n2 : vs'.size = ys.length := by simpa using ReadsAll.length _ _ _ k4
        rw [dataLt_tuple, ← first_toks xs ys pX pY cL, ← n1, ← n2]
        refine lt_tuples ⟨_, h1, h2, _, h3⟩ ⟨_, k1, k2, _, k3⟩ (by omega) (fun k ku kw => ?_) fun k ku kw hk he => ?_
        · have z := eqAt_plainAll xs ys A.in1 s vs.toList vs'.toList _ _ h4 k4 pX pY (by omega) k (by simpa using ku) (by simpa using kw)
          simpa using z
        · obtain ⟨b1, r1⟩ := reads_at xs _ _ h4 k (by simpa using ku)
          obtain ⟨b2, r2⟩ := reads_at ys _ _ k4 k (by simpa using kw)
          have ku' : k < xs.length := by omega
          have kw' : k < ys.length := by omega
          have z := rcLt_cmp n (xs.getD k .none) (ys.getD k .none) A.in1 s _ _ b1 b2 (Nat.le_trans (depth_at xs k ku') dX) r1 r2 (plain_at pX k ku') (plain_at pY k kw') (cmpOk_at xs ys k cL ku' kw' hk he) (by omega)
          simpa using z
  | n, .none, _, _, _, _, _, _, _, _, _, _, _, _, c, _ => by simp [cmpOk] at c
  | n, .bool _, _, _, _, _, _, _, _, _, _, _, _, _, c, _ => by simp [cmpOk] at c
  | n, .list _, _, _, _, _, _, _, _, _, _, _, _, _, c, _ => by simp [cmpOk] at c
  | n, .dict _, _, _, _, _, _, _, _, _, _, _, _, _, c, _ => by simp [cmpOk] at c
end OrdD

namespace OrdD
open PySem PySem.SeqAt PySem.W PyProof.Rows
section
variable {prog : Program} {w : World} {A : Around} {E : Value → Shared → Prop} {s : Shared}
theorem one_lt {f : Bool} {x y : PyData} {a b : Value} {as bs : List Addr} {n : Nat} {Q : Bool → Shared → Prop} (hf : f = true → ∀ t, x ≠ .tuple t) (hn : x.depth ≤ n) (ra : Reads s.heap a x as) (rb : Reads s.heap b y bs) (px : x.plain = true) (py : y.plain = true) (c : cmpOk x y = true)
    (hu : A.units + n < cLine) (hq : Q (dataLt x y) s) : wpAny (model prog w) A (oneLt' f a b) Q E s := by
  cases f with
  | false =>
    rw [oneLt'_eq]
    simp only [Bool.false_eq_true, if_false]
    exact wpAny_bind (rcLt_cmp n x y A s a b as bs hn ra rb px py c hu prog w E _ (wpAny_truthy_bool hq))
  | true =>
    cases x with
    | int i =>
      cases y <;> first | (simp [cmpOk] at c; done) | skip
      cases ra
      cases rb
      rw [dataLt_int] at hq
      exact oneLt_int hq
    | str i =>
      cases y <;> first | (simp [cmpOk] at c; done) | skip
      cases ra
      cases rb
      rw [dataLt_str] at hq
      exact oneLt_str hq
    | tuple t => exact absurd rfl (hf rfl t)
    | _ => simp [cmpOk] at c
theorem katLex_cmp {b fin : Bool} {n : Nat} {Q : Bool → Shared → Prop} : ∀ (xs ys : List PyData) (i : Nat) (vs ws : List Value) (as bs : List Addr), ReadsAll s.heap vs xs as → ReadsAll s.heap ws ys bs → PyData.plainAll xs = true → PyData.plainAll ys = true → cmpOkL xs ys = true →
    PyData.depthAll xs ≤ n → A.units + n < cLine → (b = true → i = 0 → ∀ x r t, xs = x :: r → x ≠ .tuple t) → fin = decide (xs.length < ys.length) → Q (lexLt itemOrd (keyToksAll xs) (keyToksAll ys)) s → KatLex prog w A b fin Q (vs.zip ws) i s
  | [], [], i, _, _, _, _, ra, rb, _, _, _, _, _, _, hf, hq => by
    cases ra
    cases rb
    obtain rfl : fin = false := by rw [hf]; rfl
    rw [lex_irrefl] at hq
    exact kat_nil hq
  | [], y :: ys, i, _, _, _, _, ra, rb, _, _, _, _, _, _, hf, hq => by
    cases ra
    obtain rfl : fin = true := by rw [hf]; exact decide_eq_true (Nat.succ_pos _)
    rw [toks_all_cons] at hq
    simp only [keyToksAll] at hq
    rw [lex_diff (O := itemOrd) (by simp)] at hq
    rw [List.zip_nil_left]
    exact kat_nil (by simpa [itemLt] using hq)
  | x :: xs, [], i, _, _, _, _, ra, rb, _, _, _, _, _, _, hf, hq => by
    cases rb
    obtain rfl : fin = false := by rw [hf]; exact decide_eq_false (Nat.not_lt_zero _)
    rw [toks_all_cons] at hq
    simp only [keyToksAll] at hq
    rw [lex_diff (O := itemOrd) (by simp)] at hq
    rw [List.zip_nil_right]
    exact kat_nil (by simpa [itemLt] using hq)
  | x :: xs, y :: ys, i, _, _, _, _, ra, rb, px, py, c, hn, hu, hb, hf, hq => by
    have px' : x.plain = true ∧ PyData.plainAll xs = true := by simpa [PyData.plainAll] using px
    have py' : y.plain = true ∧ PyData.plainAll ys = true := by simpa [PyData.plainAll] using py
    have hn' : x.depth ≤ n ∧ PyData.depthAll xs ≤ n := by simp only [PyData.depthAll] at hn; omega
    simp only [cmpOkL] at c
    cases ra with
    | cons r rs =>
      cases rb with
      | cons r' rs' =>
        rw [List.zip_cons_cons]
        refine kat_cons (eqAt_plain x y A s _ _ _ _ r r' px'.1 py'.1 (by omega) prog w _ _ ?_)
        cases hx : PyData.eqv x y with
        | true =>
          rw [hx, if_pos rfl] at c
          rw [lexL_yes px'.1 py'.1 hx] at hq
          refine kat_yes (katLex_cmp xs ys (i + 1) _ _ _ _ rs rs' px'.2 py'.2 c hn'.2 hu (fun _ hi => absurd hi (Nat.succ_ne_zero i)) ?_ hq)
          rw [hf]
          simp only [List.length_cons, Nat.add_lt_add_iff_right]
        | false =>
          rw [hx, if_neg Bool.false_ne_true] at c
          rw [lexL_no px'.1 py'.1 c hx] at hq
          refine kat_no (one_lt (n := n) (fun z t => ?_) hn'.1 r r' px'.1 py'.1 c hu hq)
          rw [Bool.and_eq_true] at z
          exact hb z.1 (by simpa using z.2) x xs t rfl

theorem kind_some {h : Heap} {ds : List PyData} (hp : ∀ d ∈ ds, d.plain = true) {v : Value} {d : PyData} {as : List Addr} (hd : d ∈ ds) (r : Reads h v d as) : (dataKind h ds).keyOf v = some (keyToks d) := by
  cases q : (dataKind h ds).keyOf v with
  | none =>
    exfalso
    have ex : ∃ d, d ∈ ds ∧ ∃ as, Reads h v d as := ⟨d, hd, as, r⟩
    have z : (dataKind h ds).keyOf v = some (keyToks ex.choose) := by
      show (open Classical in if q : ∃ d, d ∈ ds ∧ ∃ as, Reads h v d as then some (keyToks q.choose) else none) = some (keyToks ex.choose)
      exact dif_pos ex
    rw [q] at z
    cases z
  | some k =>
    obtain ⟨d', as', h1, h2, rfl⟩ := dataKind_inv q
    rw [plain_unique d' d v as' as (hp d' h1) h2 r]
    rfl
/-- what sort says of keys: all ints, all texts, or tuples that begin all with an int, all with a text -/
def Kin (ds : List PyData) : Prop := (∃ T : Value, (T != Value.type "tuple") = true ∧ (T == T) = true ∧ ∀ d ∈ ds, dataType d = T ∧ ∀ t, d ≠ .tuple t) ∨
  ∃ T : Value, (T != Value.type "tuple") = true ∧ (T == T) = true ∧ ∀ d ∈ ds, ∃ x r, d = .tuple (x :: r) ∧ dataType x = T ∧ ∀ t, x ≠ .tuple t
theorem sortsAt_cmp {vs : List Value} {ds : List PyData} {n : Nat} (e : EachIs (fun v d => ∃ as, Reads s.heap v d as) vs ds) (hp : ∀ d ∈ ds, d.plain = true) (hc : ∀ d ∈ ds, ∀ d' ∈ ds, cmpOk d d' = true) (hk : Kin ds) (hn : ∀ d ∈ ds, d.depth ≤ n) (hu : A.units + n < cLine) :
    SortsAt prog w A s (dataKind s.heap ds) vs := by
  refine ⟨fun v hv => ?_, ?_⟩
  · obtain ⟨d, hd, as, r⟩ := e.left v hv
    exact ⟨_, kind_some hp hd r⟩
  · rcases hk with ⟨T, hT, hTT, hk⟩ | ⟨T, hT, hTT, hk⟩
    · refine ⟨oneType', ?_, fun h2 E Q hq => ?_⟩
      · intro E x y a b Q ha hb hq
        obtain ⟨d, as, hd, ra, rfl⟩ := dataKind_inv ha
        obtain ⟨d', as', hd', rb, rfl⟩ := dataKind_inv hb
        rw [keyLt'_oneType]
        exact one_lt (n := n) (fun _ => (hk d hd).2) (hn d hd) ra rb (hp d hd) (hp d' hd') (hc d hd d' hd') hu hq
      · refine kas_kind (T := T) h2 (fun v hv => ?_) hT hTT hq
        obtain ⟨d, hd, as, r⟩ := e.left v hv
        rw [← (hk d hd).1]
        exact looks_reads r
    · refine ⟨tuples' (T != Value.type "tuple"), ?_, fun h2 E Q hq => ?_⟩
      · intro E x y a b Q ha hb hq
        obtain ⟨d, as, hd, ra, rfl⟩ := dataKind_inv ha
        obtain ⟨d', as', hd', rb, rfl⟩ := dataKind_inv hb
        have c := hc d hd d' hd'
        have p1 := hp d hd
        have p2 := hp d' hd'
        have dn := hn d hd
        obtain ⟨x1, r1, rfl, t1, u1⟩ := hk d hd
        obtain ⟨x2, r2, rfl, t2, u2⟩ := hk d' hd'
        have hq' : Q (dataLt (.tuple (x1 :: r1)) (.tuple (x2 :: r2))) s := hq
        rw [dataLt_tuple] at hq'
        cases ra with
        | @tuple l o xs m _ _ h1 h2 h3 h4 =>
          cases rb with
          | @tuple l' o' xs' m' _ _ k1 k2 k3 k4 =>
            have n1 : xs.size = (x1 :: r1).length := by simpa using ReadsAll.length _ _ _ h4
            have n2 : xs'.size = (x2 :: r2).length := by simpa using ReadsAll.length _ _ _ k4
            refine kat_lt h1 h3 k1 k3 (katLex_cmp (n := n) (x1 :: r1) (x2 :: r2) 0 _ _ _ _ h4 k4 (by simpa [PyData.plain] using p1) (by simpa [PyData.plain] using p2) (by simpa [cmpOk] using c) (by simp only [PyData.depth] at dn; omega) hu (fun _ _ x r t ex => ?_) (by rw [n1, n2]) hq')
            obtain ⟨rfl, rfl⟩ := List.cons.inj ex
            exact u1 t
      · obtain ⟨fs, t1, t2, t3⟩ := each_katTups e fun d hd => by
          obtain ⟨x, r, q, _⟩ := hk d hd
          exact ⟨x, r, q⟩
        refine kat_kind (T := T) t1 (by omega) (fun f hf => ?_) hTT hq
        obtain ⟨x, r, as, m1, m2⟩ := t3 f hf
        obtain ⟨x', r', q, q2, _⟩ := hk _ m1
        cases q
        rw [← q2]
        exact looks_reads m2
/-- the order of keys -/
def keyLe {β : Type} (k : β → PyData) (p q : β) : Bool := !dataLt (k q) (k p)
theorem keyLe_eq {β : Type} (k : β → PyData) : keyLe k = sortLe (listOrd itemOrd) false fun b => keyToks (k b) := rfl

/-- a heap without the object at k -/
def holed (h : Heap) (k : Addr) : Heap := { h with objs := h.objs.setIfInBounds k ⟨.none, none, .freed, #[]⟩ }
theorem holed_ne {h : Heap} {k b : Addr} (hb : b ≠ k) : (holed h k).get? b = h.get? b := by
  unfold holed Heap.get?
  simp only [Array.getElem?_setIfInBounds, if_neg (Ne.symm hb)]
theorem holed_eq {h : Heap} {k : Addr} : (holed h k).get? k = none := by
  unfold holed Heap.get?
  simp only [Array.getElem?_setIfInBounds]
  by_cases q : k < h.objs.size
  · simp [q]
  · simp [q]
end
end OrdD

namespace L2
open PySem PySem.Spec PyProof.Rows OrdD PySem.W
/-- the keys of the items, one after the other -/
def keysT (sp : Sp) : List V → List V → Hp → (List V → Hp → Prop) → Prop
  | [], acc, H, C => C acc H
  | x :: xs, acc, H, C => sp [x] H (fun k H1 => keysT sp xs (acc ++ [k]) H1 C) fun _ _ _ => False
section
variable {X : Cx} {kk : Nat} {f : Addr} {fd : FuncData} {ps : List Str} {sp : Sp} {pins : List (Addr × Obj)} {σ : St} {H : Hp} {s : Shared}
theorem run_in2 (F : FnOk X.prog X.w X.K X.mg X.base CX0 kk f fd ps sp) (hb : Binds X.K fd ps []) (hr : Room kk X.A.in1.in1) (I : Inv X pins σ H s) {x : V} {u : Value} (r : RelV x u) {Q : VK} (h : sp [x] H Q fun _ _ _ => False) {E : Value → Shared → Prop} :
    wpAny (model X.prog X.w) X.A.in1.in1 (call (.ref f) [u]) (EP X pins σ Q) E s := by
  have hl : ([u] : List Value).length = ps.length := F.len _ _ _ _ h
  have b := hb s [u] I.kIn (by rw [List.append_nil]; exact hl)
  rw [List.append_nil] at b
  refine wpAny_call (codeAny_mono (F.run X.A.in1.in1 X.stack s H ⟨[u], []⟩ [u] [x] Q _ hr I.env0.in1.in1 b (.cons r .nil) h) fun r s' hq => ?_)
  cases r with
  | error e => exact False.elim hq
  | ok fl =>
    cases fl with
    | ret v => exact I.after hq
    | next => exact False.elim hq
    | brk => exact False.elim hq
    | cont => exact False.elim hq
theorem vals_snoc : ∀ {xs : List V} {us : List Value} {v : V} {u : Value}, Vals xs us → RelV v u → Vals (xs ++ [v]) (us ++ [u])
  | _, _, _, _, .nil, r => .cons r .nil
  | _, _, _, _, .cons h t, r => .cons h (vals_snoc t r)
theorem vals_at : ∀ {xs : List V} {us : List Value} {j : Nat} {u : Value}, Vals xs us → us[j]? = some u → ∃ v, xs[j]? = some v ∧ RelV v u
  | _, _, _, _, .nil, e => by simp at e
  | _, _, 0, _, .cons h _, e => by simp at e; subst e; exact ⟨_, rfl, h⟩
  | _, _, j + 1, u, .cons _ t, e => by
    obtain ⟨v, h1, h2⟩ := vals_at (j := j) (u := u) t (by simpa using e)
    exact ⟨v, by simpa using h1, h2⟩
theorem dp_each {K : PySem.W.Frag} (I : Inv X pins σ H s) (hK : X.K = K) : ∀ {ks : List V} {us : List Value} {ds : List PyData}, DpAll K H ks ds → Vals ks us → EachIs (fun v d => ∃ as, Reads s.heap v d as) us ds
  | _, _, _, .nil, .nil => .nil
  | _, _, _, .cons h t, .cons r rs => .cons (Dp.reads I _ _ _ (hK ▸ h) r) (dp_each I hK t rs)
theorem each_rel : ∀ {xs : List V} {us : List Value} {ds : List PyData}, ds.length = xs.length → Vals xs us → EachIs (fun (u : Value) (p : PyData × V) => RelV p.2 u) us (ds.zip xs)
  | _, _, [], h, .nil => .nil
  | _, _, [], h, .cons _ _ => by simp at h
  | _, _, _ :: _, h, .nil => by simp at h
  | _, _, d :: ds, h, .cons r t => .cons r (each_rel (by simpa using h) t)
theorem each_vals : ∀ {us : List Value} {ps : List (PyData × V)}, EachIs (fun (u : Value) (p : PyData × V) => RelV p.2 u) us ps → Vals (ps.map (·.2)) us
  | _, _, .nil => .nil
  | _, _, .cons h t => .cons h (each_vals t)
/-- a list of ours that was not tracked has its new content, another record is done with -/
theorem inv_sorted {a kS : Addr} {h' : Heap} {tk : Nat} {ys : List V} {its : List Value} {c : Nat} (I : Inv X pins σ H s) (kp : ∀ b o, b ≠ a → b ≠ kS → s.heap.get? b = some o → h'.get? b = some o) (na : H a = none) (nk : H kS = none)
    (a0 : X.s_0.heap.objs.size ≤ a) (k0 : X.s_0.heap.objs.size ≤ kS) (aL : a ≠ X.env.locals) (kL : kS ≠ X.env.locals) (ac : ∀ x c, X.env.cells.lookup x = some c → c ≠ a ∧ c ≠ kS) (ap : ∀ p ∈ X.pn ++ pins, p.1 ≠ a ∧ p.1 ≠ kS)
    (ho : h'.get? a = some (seqObj "list" its.toArray c)) (r : Vals ys its) (hz : ys.length ≤ sizeLine) : Inv X pins σ (upd H a (.lst ys)) { s with heap := h', toks := tk } := by
  have ne : ∀ b u, H b = some u → b ≠ a ∧ b ≠ kS := fun b u e => ⟨fun z => (by rw [z, na] at e; cases e), fun z => (by rw [z, nk] at e; cases e)⟩
  refine I.call (ch := [a, kS]) (g' := s.gens) (d' := s.drawn) ⟨fun b o e n _ hc => ?_, fun b o e n _ hc => ?_, fun b o e n hc => ?_, fun b o e hc => ?_, fun b xs e => ?_, fun b o u e => ?_, fun b ps e => ?_⟩ (fun b u e => ?_) I.bare fun b hb => ?_
  · exact kp b o (fun z => hc (by simp [z])) (fun z => hc (by simp [z])) e
  · exact ⟨o.slots, kp b o (fun z => hc (by simp [z])) (fun z => hc (by simp [z])) e⟩
  · rw [upd_ne (fun z => hc (by simp [z]))]; exact n
  · exact ⟨o, kp b o (fun z => hc (by simp [z])) (fun z => hc (by simp [z])) e⟩
  · rw [upd_ne (ne b _ e).1]; exact e
  · rw [upd_ne (ne b _ e).1]; exact e
  · exact ⟨#[], by rw [upd_ne (ne b _ e).1, e]; simp⟩
  · by_cases q : b = a
    · subst q
      rw [upd_same] at e
      cases e
      exact ⟨hz, its, c, r, ho⟩
    · rw [upd_ne q] at e
      refine (I.hok b u e).stay (fun d v hd z => ?_) (fun d z => by rw [upd_ne (ne d _ z).1]; exact z) fun d xs z => by rw [upd_ne (ne d _ z).1]; exact z
      have nd : d ≠ a ∧ d ≠ kS := by
        rcases hd with rfl | hd
        · exact ne _ _ e
        · exact ne _ _ hd
      exact kp d v nd.1 nd.2 z
  · have hb : b = a ∨ b = kS := by simpa using hb
    rcases hb with rfl | rfl
    · exact ⟨.inr a0, aL, fun x c e => (ac x c e).1, fun p hp => (ap p hp).1⟩
    · exact ⟨.inr k0, kL, fun x c e => (ac x c e).2, fun p hp => (ap p hp).2⟩
end
end L2

namespace L2
open PySem PySem.Spec PyProof.Rows OrdD PySem.W
theorem each_key {α : Type} {h : Heap} {ds0 : List PyData} (hp : ∀ d ∈ ds0, d.plain = true) : ∀ {us : List Value} {ds : List PyData} {xs : List α}, EachIs (fun v d => ∃ as, Reads h v d as) us ds → (∀ d ∈ ds, d ∈ ds0) → ds.length = xs.length →
    EachIs (fun (v : Value) (p : PyData × α) => (dataKind h ds0).keyOf v = some (keyToks p.1)) us (ds.zip xs)
  | _, _, [], .nil, _, _ => .nil
  | _, _, _ :: _, .nil, _, hl => by simp at hl
  | _, _, [], .cons _ _, _, hl => by simp at hl
  | _, _, x :: xs, .cons ⟨as, r⟩ t, hm, hl => .cons (kind_some hp (hm _ List.mem_cons_self) r) (each_key hp t (fun d hd => hm d (List.mem_cons_of_mem _ hd)) (by simpa using hl))
section
variable {X : Cx} {kk : Nat} {f : Addr} {fd : FuncData} {ps : List Str} {sp : Sp} {pins : List (Addr × Obj)} {σ : St} {H : Hp} {s : Shared}
/-- what the keys must be, and what is told of the items in their order -/
def KeyC (K : PySem.W.Frag) (xs : List V) (Q : VK) (ks : List V) (H : Hp) : Prop := ∃ ds : List PyData, ds.length = xs.length ∧ DpAll K H ks ds ∧ (∀ d ∈ ds, d.plain = true) ∧ (∀ d ∈ ds, ∀ d' ∈ ds, cmpOk d d' = true) ∧ Kin ds ∧ (∀ d ∈ ds, d.depth ≤ 30) ∧
  ∀ p, H p = none → Q (.ref p) (upd H p (.lst (((ds.zip xs).mergeSort (keyLe fun q => q.1)).map (·.2))))
theorem sort_body (F : FnOk X.prog X.w X.K X.mg X.base CX0 kk f fd ps sp) (hb : Binds X.K fd ps []) (hr : Room kk X.A.in1.in1) {h1 : Heap} {a : Addr} {xs : List V} {us : List Value} {Q : VK} {E : Value → Shared → Prop} (I : Inv X pins σ H s)
    (kp1 : ∀ b o, s.heap.get? b = some o → h1.get? b = some o) (ha : s.heap.objs.size ≤ a) (hsz : s.heap.objs.size ≤ h1.objs.size) (ho : h1.get? a = some (seqObj "list" us.toArray 0)) (rv : Vals xs us) (few : us.length ≤ sizeLine) (hk : keysT sp xs [] H (KeyC X.K xs Q)) :
    wpAny (model X.prog X.w) X.A.in1.in1 (Builtin.«list.sort» ⟨[.ref a], [(Str.ofString "key", .ref f)]⟩) (fun fn s' => fn = .done (.ret .none) ∧ EP X pins σ Q (.ref a) s') E { s with heap := h1 } := by
  obtain ⟨e1, ho1⟩ : ∃ e1, (h1.update a (Obj.mapSeq fun _ => (#[] : Array Value))).get? a = some (seqObj "list" #[] e1) := ⟨_, get?_update_seq ho fun _ => #[]⟩
  have ha1 : a < h1.objs.size := Heap.lt_size ho
  rw [ksk_t1]
  unfold ksk_tree
  refine wpAny_bind (listItems_at (s := { s with heap := h1 }) ho rfl (wpAny_bind (listUpdate_at (s := { s with heap := h1 }) ho rfl ?_ (by rw [List.size_toArray]; exact few) (Nat.zero_le _))))
  refine wpAny_bind (seqEpoch_at (s := { s with heap := h1.update a (Obj.mapSeq fun _ => (#[] : Array Value)) }) ho1 rfl (wpAny_bind (wpAny_newTuple ?_ (by show us.length ≤ _; exact few))))
  refine wpAny_bind (wpAny_newList (wpAny_holding ?_) (Nat.zero_le _))
  have hkS : ((h1.update a (Obj.mapSeq fun _ => (#[] : Array Value))).push (seqObj "tuple" us.toArray 0)).objs.size = h1.objs.size + 1 := by rw [size_push', Heap.size_update]
  have nk0 : (sortingHeap h1 a us).get? ((h1.update a (Obj.mapSeq fun _ => (#[] : Array Value))).push (seqObj "tuple" us.toArray 0)).objs.size = some (seqObj "list" #[] 0) := Heap.get?_push_size _ rfl
  have na0 : (sortingHeap h1 a us).get? a = some (seqObj "list" #[] e1) := Heap.get?_push_of_some _ (Heap.get?_push_of_some _ ho1)
  show wpAny (model X.prog X.w) X.A.in1.in1 (ksk_rest a (.ref f) false us.toArray e1 (.ref ((h1.update a (Obj.mapSeq fun _ => (#[] : Array Value))).push (seqObj "tuple" us.toArray 0)).objs.size)) _ E { s with heap := sortingHeap h1 a us }
  generalize ((h1.update a (Obj.mapSeq fun _ => (#[] : Array Value))).push (seqObj "tuple" us.toArray 0)).objs.size = kS at hkS nk0
  have hka : kS ≠ a := Nat.ne_of_gt (hkS ▸ Nat.lt_succ_of_lt ha1)
  have kn : s.heap.objs.size ≤ kS := by omega
  have old : ∀ p ∈ X.pn ++ pins, p.1 < s.heap.objs.size := fun p hp => Heap.lt_size (I.pin p hp).1
  have fresh : ∀ b, s.heap.objs.size ≤ b → H b = none ∧ b ≠ X.env.locals ∧ b ∉ X.fs := fun b hb => ⟨I.hok.fresh hb, fun z => absurd (z ▸ I.lt : b < s.heap.objs.size) (Nat.not_lt.mpr hb), I.nofs hb⟩
  have I2 : Inv X pins σ H { s with heap := sortingHeap h1 a us } := I.kept (t' := s.toks) fun b u q => sortingHeap_old (Nat.ne_of_lt (Nat.lt_of_lt_of_le (Heap.lt_size q) ha)) (kp1 b u q)
  have s0 : X.s_0.heap.objs.size ≤ s.heap.objs.size := I.sz
  have again : ∀ {H' : Hp} {s' : Shared} {o : Obj}, Inv X ((a, seqObj "list" #[] e1) :: pins) σ H' s' → s'.heap.get? kS = some o → H' kS = none → (∀ v, o.data ≠ .cell v) → Inv X ((kS, o) :: (a, seqObj "list" #[] e1) :: pins) σ H' s' := fun {H' s' o} J e n nc => J.pins_of fun p hp => by
    rcases List.mem_cons.mp hp with rfl | hp
    · exact ⟨e, n, (fresh kS kn).2.1, (fresh kS kn).2.2, nc⟩
    · exact J.pin p (List.mem_append_right _ hp)
  have I3 : Inv X ((kS, seqObj "list" #[] 0) :: (a, seqObj "list" #[] e1) :: pins) σ H { s with heap := sortingHeap h1 a us } := again (I2.pins_of fun p hp => by
    rcases List.mem_cons.mp hp with rfl | hp
    · exact ⟨na0, (fresh a ha).1, (fresh a ha).2.1, (fresh a ha).2.2, fun v => by simp [seqObj]⟩
    · exact I2.pin p (List.mem_append_right _ hp)) nk0 (fresh kS kn).1 fun v => by simp [seqObj]
  unfold ksk_rest
  refine wpAny_bind (wpAny_rule ?_)
  rw [← Array.forIn_toList]
  simp only [List.toList_toArray]
  refine wpAny_bind (ksk_fold (fun j s' => ∃ (kvs : List V) (kA : Array Value) (e : Nat) (H' : Hp), Inv X ((kS, seqObj "list" kA e) :: (a, seqObj "list" #[] e1) :: pins) σ H' s' ∧ Vals kvs kA.toList ∧ kvs.length = j ∧ keysT sp (xs.drop j) kvs H' (KeyC X.K xs Q)) us 0 _
    ⟨[], #[], 0, H, I3, .nil, rfl, by rw [List.drop_zero]; exact hk⟩ ?turns ?ends)
  case turns =>
    rintro j x s' hx ⟨kvs, kA, e, H', J, rk, hl, hkj⟩
    simp only [Nat.zero_add] at hl hkj ⊢
    obtain ⟨xv, hxv, rx⟩ := vals_at rv hx
    have hj : j < us.length := (List.getElem?_eq_some_iff.mp hx).1
    have hd : xs.drop j = xv :: xs.drop (j + 1) := by
      obtain ⟨q1, q2⟩ := List.getElem?_eq_some_iff.mp hxv
      rw [List.drop_eq_getElem_cons q1, q2]
    rw [hd] at hkj
    refine wpAny_bind (wpAny_attempt (wpAny_mono (run_in2 F hb hr J rx hkj (E := fun _ _ => False)) (fun v s2 he => ?_) fun _ _ z => z.elim))
    obtain ⟨kv, H2, J2, rkv, hk2⟩ := he
    have pk := J2.pin (kS, seqObj "list" kA e) (List.mem_append_right _ List.mem_cons_self)
    have pa := J2.pin (a, seqObj "list" #[] e1) (List.mem_append_right _ (List.mem_cons_of_mem _ List.mem_cons_self))
    have same := Heap.SameBut.update s2.heap kS (Obj.mapSeq (·.push v))
    obtain ⟨c2, hc2⟩ : ∃ c2, (s2.heap.update kS (Obj.mapSeq (·.push v))).get? kS = some (seqObj "list" (kA.push v) c2) := ⟨_, get?_update_seq pk.1 (·.push v)⟩
    have kl : kA.size = j := by rw [← hl, rk.length, Array.length_toList]
    have J3 : Inv X ((a, seqObj "list" #[] e1) :: pins) σ H2 s2 := J2.pins_of fun p hp => J2.pin p (List.mem_append_right _ (List.mem_cons_of_mem _ hp))
    have J4 : Inv X ((a, seqObj "list" #[] e1) :: pins) σ H2 { s2 with heap := s2.heap.update kS (Obj.mapSeq (·.push v)) } := J3.turned (it := kS) (t' := s2.toks) (fun b o z q => (same.2 b z).trans q) pk.2.1 pk.2.2.1 (.inr (Nat.le_trans s0 kn)) (fun y c q z => by
      obtain ⟨cv, co, ce, cd⟩ := J2.cell y c q
      rw [z, pk.1] at ce
      cases ce
      exact pk.2.2.2.2 cv cd) fun p hp => by
        rcases List.mem_append.mp hp with hp | hp
        · exact Nat.ne_of_lt (Nat.lt_of_lt_of_le (old p (List.mem_append_left _ hp)) kn)
        · rcases List.mem_cons.mp hp with rfl | hp
          · exact fun z => hka z.symm
          · exact Nat.ne_of_lt (Nat.lt_of_lt_of_le (old p (List.mem_append_right _ hp)) kn)
    refine wpAny_bind (listUpdate_at pk.1 rfl ?_ (by omega) (by rw [Array.size_push]; omega))
    exact wpAny_pure ⟨rfl, kvs ++ [kv], kA.push v, c2, H2, again J4 hc2 pk.2.1 (fun v => by simp [seqObj]), by rw [Array.toList_push]; exact vals_snoc rk rkv, by simp [hl], hk2⟩
  case ends =>
    rintro s' ⟨kvs, kA, e, H', J, rk, hl, hkj⟩
    simp only [Nat.zero_add] at hl hkj
    have xl : xs.length = us.length := rv.length
    rw [List.drop_of_length_le (by omega)] at hkj
    obtain ⟨ds, d1, d2, d3, d4, d5, d6, q⟩ : KeyC X.K xs Q kvs H' := hkj
    have pk := J.pin (kS, seqObj "list" kA e) (List.mem_append_right _ List.mem_cons_self)
    have pa := J.pin (a, seqObj "list" #[] e1) (List.mem_append_right _ (List.mem_cons_of_mem _ List.mem_cons_self))
    have rd := dp_each J rfl d2 rk
    have ksz : kA.size = us.length := by rw [← Array.length_toList, ← rk.length, hl]
    refine wpAny_bind (listItems_at pk.1 rfl ?_)
    refine keyH_end (κ := dataKind s'.heap ds) (h₁ := holed s'.heap kS) (fun b o hb q => ?_) holed_eq pk.1 pa.1 hka (sortsAt_cmp (n := 30) rd d3 d4 d5 d6 (by have := hr.un; omega)) ksz few fun h' tk c kp' na' => ⟨rfl, ?_⟩
    · rwa [holed_ne (fun z => by rw [z, holed_eq] at q; cases q)] at q
    · have J0 : Inv X pins σ H' s' := J.pins_of fun p hp => J.pin p (List.mem_append_right _ (List.mem_cons_of_mem _ (List.mem_cons_of_mem _ hp)))
      have out := each_vals (sortVals_each (κ := dataKind s'.heap ds) (rev := false) (fun p : PyData × V => keyToks p.1) (each_rel (by omega) rv) (each_key d3 rd (fun _ z => z) d1))
      have ol := out.length
      have cells : ∀ x c, X.env.cells.lookup x = some c → c ≠ a ∧ c ≠ kS := fun y c q => by
        obtain ⟨cv, co, ce, cd⟩ := J.cell y c q
        refine ⟨fun z => ?_, fun z => ?_⟩
        · rw [z, pa.1] at ce
          cases ce
          exact pa.2.2.2.2 cv cd
        · rw [z, pk.1] at ce
          cases ce
          exact pk.2.2.2.2 cv cd
      refine ⟨.ref a, _, inv_sorted (tk := tk) J0 (fun b o z1 z2 q => kp' b o z1 (by rw [holed_ne z2]; exact q)) pa.2.1 pk.2.1 (Nat.le_trans s0 ha) (Nat.le_trans s0 kn) pa.2.2.1 pk.2.2.1 cells (fun p hp => ⟨Nat.ne_of_lt (Nat.lt_of_lt_of_le (old p hp) ha), Nat.ne_of_lt (Nat.lt_of_lt_of_le (old p hp) kn)⟩) na' out ?_, rfl, q a pa.2.1⟩
      rw [ol, sortVals_length]
      · exact few
      · rw [Array.length_toList]; exact ksz
end
end L2

namespace L2
open PySem PySem.Spec PyProof.Rows OrdD PySem.W
section
variable {X : Cx} {kk : Nat} {f : Addr} {fd : FuncData} {ps : List Str} {sp : Sp}
/-- sorted(xs, key=f), f a def -/
def rSortKey (K : PySem.W.Frag) (f : Addr) (sp : Sp) : List V → List V → Hp → VK → Prop := fun vs zs H Q => ∃ (a : Addr) (xs : List V), vs = [V.ref a] ∧ zs = [V.ref f] ∧ SqL K H a xs ∧ keysT sp xs [] H (KeyC K xs Q)
theorem cr_sortKey (F : FnOk X.prog X.w X.K X.mg X.base CX0 kk f fd ps sp) (hb : Binds X.K fd ps []) (hr : Room kk X.A.in1.in1) : CallRK X (.builtin "sorted") [Str.ofString "key"] (rSortKey X.K f sp) := by
  intro pins s σ H vs zs us ws Q I r rz h
  obtain ⟨a, xs, rfl, rfl, hs, hk⟩ := h
  obtain ⟨its, rv, hl, few⟩ := I.list hs
  obtain ⟨u, rfl, ru⟩ := vals1 r
  obtain rfl : u = Value.ref a := ru
  obtain ⟨w1, rfl, e1⟩ := vals1 rz
  obtain rfl : w1 = Value.ref f := e1
  have few' : its.length ≤ sizeLine := by rw [← rv.length]; exact few
  have big : s.heap.objs.size ≤ (copyHeap s.heap its).objs.size := by
    unfold copyHeap
    rw [size_push', Heap.size_update, size_push']
    omega
  exact sorted_of_sort hl.isList few' (ksk_s1 _ _) (fun _ => ksk_l1 _ _) fun E' => sort_body F hb hr I (fun b o q => copyHeap_old q) (Nat.le_succ _) big (copyHeap_at s.heap its) rv few' hk
end
end L2
set_option Elab.async false
set_option linter.all false
set_option maxRecDepth 100000
set_option maxHeartbeats 4000000
/-! try with several clauses, each with a name for what it catches or none; isinstance of a caught exception that bears fields. -/
namespace L2
open PySem PySem.Spec PyProof.Rows
/-- a clause: its class, the slot of its name, its suite -/
abbrev Clause := Value × Option Nat × (Addr → Value → Option Addr → TS)
/-- the name of the clause is gone behind it -/
def goneE (D : Ends) : Option Nat → Ends
  | none => D
  | some i => { nx := fun t G => D.nx (t.set i none) G, rt := D.rt, bk := fun t G => D.bk (t.set i none) G, ct := fun t G => D.ct (t.set i none) G }
def heldS (σ : St) (a : Addr) : Option Nat → St
  | none => σ
  | some i => σ.set i (some (.ref a))
def wClauses (K : PySem.W.Frag) (Wo : WX) (D : Ends) : List Clause → WX
  | [] => Wo
  | q :: r => fun cls d σ H => ∃ b, PySem.W.exmOne K cls q.1 = some b ∧ (b = true → ∀ a, H a = none → q.2.2 a cls d (goneE D q.2.1) (heldS σ a q.2.1) H) ∧ (b = false → wClauses K Wo D r cls d σ H)
inductive ClausesOk (X : Cx) : List ExceptHandler → List Clause → Prop
  | nil : ClausesOk X [] []
  | bare {x : Str} {c : Value} {ts : Addr → Value → Option Addr → TS} {b₀ : Stmt} {suite : List Stmt} {np pos' : Pos} {hds : List ExceptHandler} {l : List Clause} (hc : Names X x c)
      (hsu : ∀ (a : Addr) (oe : Obj) (cls : Value) (d : Option Addr) (pn : List (Addr × Obj)), Zc cls d oe → (∃ vs, oe.data = .fields vs) → PSs (X.suite a ((a, oe) :: pn)) (b₀ :: suite) (ts a cls d)) (r : ClausesOk X hds l) :
      ClausesOk X (.ExceptHandler (some (.Name x np)) none (b₀ :: suite) pos' :: hds) ((c, none, ts) :: l)
  | named {x n : Str} {i : Nat} {c : Value} {ts : Addr → Value → Option Addr → TS} {b₀ : Stmt} {suite : List Stmt} {np pos' : Pos} {hds : List ExceptHandler} {l : List Clause} (hc : Names X x c) (hi : X.N[i]? = some n) (hln : X.env.kindOf n = some .local)
      (hsu : ∀ (a : Addr) (oe : Obj) (cls : Value) (d : Option Addr) (pn : List (Addr × Obj)), Zc cls d oe → (∃ vs, oe.data = .fields vs) → PSs (X.suite a ((a, oe) :: pn)) (b₀ :: suite) (ts a cls d)) (r : ClausesOk X hds l) :
      ClausesOk X (.ExceptHandler (some (.Name x np)) (some n) (b₀ :: suite) pos' :: hds) ((c, some i, ts) :: l)
section
variable {X : Cx} {body : List Stmt} {h₀ : ExceptHandler} {hds : List ExceptHandler} {l : List Clause} {pos : Pos} {tb : WX → TS} {Wo : WX}
theorem ps_try_clauses (hs : X.stack = X.env :: X.outer) (hf : X.env.frame = some X.env.locals) (hN : X.N.Nodup) (tk : Takes X Wo)
    (hb : ∀ (W : WX) (pn : List (Addr × Obj)) (xe : Value → Shared → Prop), Takes (X.tr pn xe) W → PassesOwn (model X.prog X.w) X.A X.env xe → PSs (X.tr pn xe) body (tb W))
    (hh : ClausesOk X (h₀ :: hds) l) : PS X (.Try body (h₀ :: hds) [] [] pos) (fun D σ H => tb (wClauses X.K Wo D l) D σ H) := by
  refine ⟨fun pins s σ H D I h => ?_⟩
  have okX := I.ok
  have frms : X.A.frames = some (X.env :: X.outer) := by rw [okX.frames, hs]
  refine wpAny_Try_except (wpAny_mono ((hb (wClauses X.K Wo D l) (X.pn ++ pins) (fun e r1 => wpAny (model X.prog X.w) X.A (noteFrame e X.env) (fun _ r2 => wpAny (model X.prog X.w) X.A (setFlight e none) (fun _ r3 =>
    wpAny (model X.prog X.w) X.A (handleBy e X.env (h₀ :: hds)) (SP X pins D) X.xe r3) X.xe r2) X.xe r1) (fun u s' thrown => ?_) PassesOwn.looking).run [] s σ H D (I.toTry _) h) (fun f r1 ran => ?_) fun e r1 he => he)
  · obtain ⟨a, B, sI, pinsB, σ', H', cls, d, rfl, invB, nb, up, sky, na, os, ag, w⟩ := thrown
    have inv1 : Inv X pins σ' H' sI := invB.ofTry okX
    rw [hs] at sky
    show wpAny (model X.prog X.w) X.A (noteFrame (.ref a) X.env) _ _ _
    refine Sky.land Zc.steady frms hf sky fun h3 fl3 up3 => ?_
    have inv3 : Inv X pins σ' H' { s' with heap := h3 } := inv1.landed nb fl3.1 (up.trans up3) os ag
    obtain ⟨oe3, vs3, he3, hz3, hd3⟩ := fl3.there
    have offFr : a ∉ frs (X.env :: X.outer) := fun hm => by
      obtain ⟨_, o', e', hnf⟩ := fl3.2.2.1.mem hm
      rw [he3] at e'; cases e'
      exact hnf _ hd3
    have offL : a ≠ X.env.locals := fun z => offFr (List.mem_filterMap.mpr ⟨X.env, List.mem_cons_self, by rw [hf, z]⟩)
    have offF : a ∉ X.fs := fun hm => by
      obtain ⟨e, he, q⟩ := List.mem_filterMap.mp hm
      exact offFr (List.mem_filterMap.mpr ⟨e, List.mem_cons_of_mem _ he, q⟩)
    have invS := inv3.suite he3 hd3 na offL offF
    have walk : ∀ {hs' : List ExceptHandler} {l' : List Clause}, ClausesOk X hs' l' → wClauses X.K Wo D l' cls d σ' H' →
        wpAny (model X.prog X.w) X.A (handleBy (.ref a) X.env hs') (SP X pins D) X.xe { s' with heap := h3 } := by
      intro hs' l' hk
      induction hk with
      | nil =>
        intro w
        refine wpAny_handleBy_nil ?_
        obtain ⟨k1, k2, k3, oe, vs, T, oT, ts', he, hz, hd, h1, hr⟩ := id fl3
        unfold PySem.passOn
        refine wpAny_bind (wpAny_field he hd h1 ?_)
        rw [if_neg (show ¬ ((Value.ref T == Value.none) = true) from by simp)]
        have out : wpAny (model X.prog X.w) X.A (setFlight (.ref a) X.env.frame) (fun _ r4 => wpAny (model X.prog X.w) X.A (throw (.ref a) : Sem Flow) (SP X pins D) X.xe r4) X.xe { s' with heap := h3 } := by
          rw [hf]
          refine HandSPX.setFlight_upZ fl3 fun h4 hh4 up4 => wpAny_throw (tk _ _ ⟨a, B, sI, pins, σ', H', cls, d, rfl, inv1, nb, (up.trans up3).trans up4, .inr (.inr (by rw [hs]; exact hh4)), na, os, ag, w⟩)
        first
          | exact wpAny_bind (wpAny_pure (wpAny_bind out))
          | exact wpAny_bind out
      | @bare x c ts b₀ suite np pos' hds2 l2 hc hsu r ih =>
        intro w
        obtain ⟨b, hb1, hyes, hno⟩ := w
        refine wpAny_handleBy_cons (codeAny_handlers_test ?_) (by intro q; cases q)
        have lookT : PySem.W.Looks (model X.prog X.w) h3 (typeOf (.ref a)) cls := fun A Q E s k q => wpAny_typeOf_ref (k _ _ he3) (by rw [hz3.1]; exact q)
        have lookM := PySem.W.exm_one (M := model X.prog X.w) (inv3.kIn) lookT hb1
        have named : ∀ {Q : Value → Shared → Prop} {E : Value → Shared → Prop}, Q c { s' with heap := h3 } → wpAny (model X.prog X.w) (X.A.mark (some (.ref a))) (eval (.Name x np) X.env) Q E { s' with heap := h3 } := fun {Q E} q => by
          obtain ⟨hg, hdbg, hm | ⟨hm, hv, hnn⟩⟩ := hc
          · exact ld_glob (X := X.suite a ((a, oe3) :: (X.pn ++ pins))) invS hg hm q hdbg
          · exact ld_blt (X := X.suite a ((a, oe3) :: (X.pn ++ pins))) invS hg hm hv q hnn hdbg
        refine named (lookM.here ?_)
        cases b with
        | true =>
          refine codeAny_handlers_suite (HandSPX.lands_againZ fl3 fun h4 fl4 up4 => ?_)
          have inv4 : Inv X pins σ' H' { s' with heap := h4 } := inv1.landed nb fl4.1 ((up.trans up3).trans up4) os ag
          obtain ⟨oe4, vs4, he4, hz4, hd4⟩ := fl4.there
          refine wpAny_mono ((hsu a oe4 cls d (X.pn ++ pins) hz4 ⟨_, hd4⟩).run [] _ _ H' _ (inv4.suite he4 hd4 na offL offF) (hyes rfl a na)) (fun f r6 ran => ?_) (fun _ _ z => False.elim z)
          cases f with
          | ret u => obtain ⟨v6, t6, G6, i6, e6, q6⟩ := ran; exact ⟨v6, t6, G6, i6.unsuite okX, e6, q6⟩
          | next => obtain ⟨t6, G6, i6, q6⟩ := ran; exact ⟨t6, G6, i6.unsuite okX, q6⟩
          | brk => obtain ⟨t6, G6, i6, q6⟩ := ran; exact ⟨t6, G6, i6.unsuite okX, q6⟩
          | cont => obtain ⟨t6, G6, i6, q6⟩ := ran; exact ⟨t6, G6, i6.unsuite okX, q6⟩
        | false =>
          show wpAny _ X.A (handleBy (.ref a) X.env hds2) _ _ _
          exact ih (hno rfl)
      | @named x n i c ts b₀ suite np pos' hds2 l2 hc hi hln hsu r ih =>
        intro w
        obtain ⟨b, hb1, hyes, hno⟩ := w
        refine wpAny_handleBy_cons (codeAny_handlers_test ?_) (by intro q; cases q)
        have lookT : PySem.W.Looks (model X.prog X.w) h3 (typeOf (.ref a)) cls := fun A Q E s k q => wpAny_typeOf_ref (k _ _ he3) (by rw [hz3.1]; exact q)
        have lookM := PySem.W.exm_one (M := model X.prog X.w) (inv3.kIn) lookT hb1
        have named : ∀ {Q : Value → Shared → Prop} {E : Value → Shared → Prop}, Q c { s' with heap := h3 } → wpAny (model X.prog X.w) (X.A.mark (some (.ref a))) (eval (.Name x np) X.env) Q E { s' with heap := h3 } := fun {Q E} q => by
          obtain ⟨hg, hdbg, hm | ⟨hm, hv, hnn⟩⟩ := hc
          · exact ld_glob (X := X.suite a ((a, oe3) :: (X.pn ++ pins))) invS hg hm q hdbg
          · exact ld_blt (X := X.suite a ((a, oe3) :: (X.pn ++ pins))) invS hg hm hv q hnn hdbg
        refine named (lookM.here ?_)
        cases b with
        | true =>
          refine codeAny_handlers_suite_as (HandSPX.lands_againZ fl3 fun h4 fl4 up4 => ?_)
          have inv4 : Inv X pins σ' H' { s' with heap := h4 } := inv1.landed nb fl4.1 ((up.trans up3).trans up4) os ag
          obtain ⟨oe4, vs4, he4, hz4, hd4⟩ := fl4.there
          refine store_ok (X := X.suite a ((a, oe4) :: (X.pn ++ pins))) (v := .ref a) (inv4.suite he4 hd4 na offL offF) hN hi (.inl hln) rfl (fun r5 i5 => ?_) (.inr hln)
          refine wpAny_mono ((hsu a oe4 cls d (X.pn ++ pins) hz4 ⟨_, hd4⟩).run [] r5 _ H' _ i5 (hyes rfl a na)) (fun f r6 ran => ?_) (fun _ _ z => False.elim z)
          have gone : ∀ {t6 : St} {G6 : Hp} {Q : Shared → Prop}, Inv (X.suite a ((a, oe4) :: (X.pn ++ pins))) [] t6 G6 r6 → (∀ r7, Inv X pins (t6.set i none) G6 r7 → Q r7) →
              wpAny (model X.prog X.w) X.A (do bindName X.env n .none; unbindBehindTheSuite X.env n pos') (fun _ r7 => Q r7) X.xe r6 := fun {t6 G6 Q} i6 hq => gone_ok (i6.unsuite okX) hN hi hln hq
          cases f with
          | ret u =>
            obtain ⟨v6, t6, G6, i6, e6, q6⟩ := ran
            exact gone i6 fun r7 i7 => ⟨_, _, _, i7, e6, q6⟩
          | next =>
            obtain ⟨t6, G6, i6, q6⟩ := ran
            exact gone i6 fun r7 i7 => ⟨_, _, i7, q6⟩
          | brk =>
            obtain ⟨t6, G6, i6, q6⟩ := ran
            exact gone i6 fun r7 i7 => ⟨_, _, i7, q6⟩
          | cont =>
            obtain ⟨t6, G6, i6, q6⟩ := ran
            exact gone i6 fun r7 i7 => ⟨_, _, i7, q6⟩
        | false =>
          show wpAny _ X.A (handleBy (.ref a) X.env hds2) _ _ _
          exact ih (hno rfl)
    exact walk hh w
  · cases f with
    | next => obtain ⟨t1, G1, i1, q⟩ := ran; exact wpAny_execs_nil ⟨t1, G1, i1.ofTry okX, q⟩
    | brk => obtain ⟨t1, G1, i1, q⟩ := ran; exact ⟨t1, G1, i1.ofTry okX, q⟩
    | cont => obtain ⟨t1, G1, i1, q⟩ := ran; exact ⟨t1, G1, i1.ofTry okX, q⟩
    | ret u => obtain ⟨v, t1, G1, i1, r, q⟩ := ran; exact ⟨v, t1, G1, i1.ofTry okX, r, q⟩
end
end L2
namespace PySem.W
open PySem PySem.Spec PySem.Calls PyProof.Rows
section
variable {prog : Program} {w : World} {A : Around} {E : Value → Shared → Prop} {s : Shared} {K : Frag} {x D : Addr} {ox od : Obj}
/-- e.__class__ of an exception that bears fields -/
theorem exc_class {Q : Option Value → Shared → Prop} (C : L2.ExcC K D) (X : K.In s.heap) (I : InstAt s.heap x ox D (some od)) (h : Q (some (.ref D)) { s with toks := s.toks + 1 }) : wpAny (model prog w) A (getAttr? (.ref x) "__class__") Q E s := by
  have hf : findObj K D (some od) "__class__" = some (.bind (.builtin "getset_descriptor.__get__") (.builtin "object.__class__")) := findObj_data (by obtain ⟨cd, hc, _⟩ := any_some C.hd; rw [hc]; rfl) C.ha C.hn C.ht
  obtain ⟨hp, gn, dd, tk, os⟩ := s
  have look0 := I.type (M := model prog w)
  have look1 := looks_findIn (M := model prog w) X C.hg
  have look2 := looks_findIn (M := model prog w) X C.hk
  have look3 := looks_find (M := model prog w) X I hf
  have isE : Looks (model prog w) hp (isInstance (.ref x) (.type "BaseException")) true := look0.andThen (looks_subIn X C.hs)
  have ne1 : (Value.builtin "BaseException.__getattribute__" == Value.builtin "object.__getattribute__") = false := by decide +kernel
  have ne2 : (onTheHeap (Value.ref D) && Value.builtin "BaseException.__getattribute__" == Value.builtin "object.__getattribute__") = false := by rw [ne1]; rfl
  have ne3 : (false && onTheHeap (Value.builtin "BaseException.__getattribute__")) = false := rfl
  unfold getAttr? getAttrBy? getAttrBy
  refine wpAny_bind (wpAny_mkText (wpAny_bind (wpAny_attempt (wpAny_holding (wpAny_bind (look0.at (wpAny_bind (look1.at ?_))))))))
  show wpAny _ _ (if (onTheHeap (Value.ref D) && Value.builtin "BaseException.__getattribute__" == Value.builtin "object.__getattribute__") = true then _ else _) _ _ _
  rw [ne2, if_neg Bool.false_ne_true]
  unfold getAttrByItsOwn hookBefore
  refine wpAny_bind ?_
  rw [if_pos (show onTheHeap (Value.ref D) = true from rfl)]
  refine look2.at (wpAny_bind (wpAny_attempt (wpAny_holding ?_)))
  unfold callGetattribute
  rw [ne3, if_neg Bool.false_ne_true]
  unfold boundAndCalled
  rw [PySem.F.excAttr_ValueError.ga.bind (.ref x)]
  refine wpAny_bind (wpAny_pure ?_)
  show wpAny _ _ (call (.builtin "BaseException.__getattribute__") [.ref x, .str "__class__" tk]) _ _ _
  refine wpAny_call (codeAny_call_builtin PySem.F.excAttr_ValueError.ga.plain PySem.F.entry_bexc_ga ?_)
  refine @check_slot (model prog w) _ _ ⟨hp, gn, dd, tk + 1, os⟩ "BaseException.__getattribute__" "BaseException" "__getattribute__" (.ref x) [.str "__class__" tk] [] _ (by decide +kernel) (by decide +kernel) isE (PySem.F.args_bexc_ga (.ref x) (.str "__class__" tk)) ?_
  unfold Builtin.«object.__getattribute__»
  refine wpAny_bind (wpAny_of_eq (a := ((Value.ref x : Value), [Value.str "__class__" tk])) (by first | rfl | (simp only [slotArgs]; rfl)) ?_)
  refine wpAny_bind (wpAny_pure (wpAny_bind (look0.at (wpAny_bind (look3.at ?_)))))
  show wpAny _ _ (holding [Value.builtin "object.__class__"] (call (.builtin "getset_descriptor.__get__") [.builtin "object.__class__", .ref x, .ref D]) >>= ret) _ _ _
  refine wpAny_bind (wpAny_holding (wpAny_call (class_get (s := ⟨hp, gn, dd, tk + 1, os⟩) (ox := ox) (od := some od) X I C.hm ?_)))
  refine wpAny_pure ?_
  show wpAny _ _ (handedOut (.ref D)) _ _ _
  rw [handedOut_of (v := .ref D) rfl]
  first
    | exact wpAny_pure (wpAny_pure h)
    | exact wpAny_pure h
    | exact wpAny_pure (wpAny_bind (wpAny_pure (wpAny_pure h)))
theorem exc_kitx (C : L2.ExcC K D) : KitX K (.ref x) (.ref D) (fun h => InstAt h x ox D (some od)) where
  ty := fun _ _ _ I => I.type
  it := fun _ _ X _ => by
    obtain ⟨cd, hc, _⟩ := any_some C.hd
    unfold clsIn at hc
    split at hc
    · rename_i ho
      exact fun A2 Q2 E2 s2 k q => by
        unfold isType loadHead
        exact wpAny_bind (wpAny_loadPart (k _ _ (X _ _ ho)) (wpAny_pure q))
    · cases hc
  ne := fun h tp dd its n sl X htp => by
    cases q : (Value.ref D == Value.ref tp) with
    | false => rfl
    | true =>
      have e : D = tp := Value.ref.inj (beq_iff_eq.mp q)
      subst e
      obtain ⟨cd, hc, _⟩ := any_some C.hd
      unfold clsIn at hc
      split at hc
      · rename_i ho
        cases (X _ _ ho).symm.trans htp
      · cases hc
  ca := fun X I k => exc_class C X I k
end
end PySem.W
namespace L2
open PySem PySem.Spec PyProof.Rows
/-- isinstance(e, c), e the exception that the suite holds, with fields -/
def rIsF (K : PySem.W.Frag) (D a dd : Addr) : List V → Hp → VK → Prop := fun xs H Q => ∃ (c : V) (cv : Value) (b : Bool) (fs : List (Str × V)), xs = [.ref a, c] ∧ H dd = some (.xd fs) ∧ (∀ u, RelV c u → u = cv) ∧ PySem.W.kitOne K (.ref D) cv = some b ∧ Q (.bl b) H
theorem call_isF {X : Cx} {a D dd : Addr} {oe : Obj} {pn : List (Addr × Obj)} (C : ExcC X.K D) (hz : Zc (.ref D) (some dd) oe) (hf : ∃ vs, oe.data = .fields vs) : CallR (X.suite a ((a, oe) :: pn)) (.builtin "isinstance") (rIsF X.K D a dd) := by
  intro pins s σ H xs us Q I r h
  obtain ⟨c, cv, b, fs, rfl, ea, hcv, e, q⟩ := h
  cases r with
  | cons rx rr =>
    cases rr with
    | cons rt rr =>
      cases rr
      cases rx
      have ec := hcv _ rt
      subst ec
      obtain ⟨hget, _⟩ := I.pin (a, oe) (List.mem_append.mpr (.inl List.mem_cons_self))
      obtain ⟨vs, hd⟩ := hf
      have hx : ObjOk X.prog X.w H s.heap dd (.xd fs) := I.hok dd _ ea
      obtain ⟨mA, hns, hr⟩ := hx
      obtain ⟨od, ho, hl⟩ := lookIn_ns hns
      have J : PySem.W.InstAt s.heap a oe D (some od) := ⟨hget, hz.1, by unfold PySem.W.notCls; rw [hd] <;> rfl, by rw [hz.2]; exact ho⟩
      exact PySem.W.kia_one (PySem.W.exc_kitx C) I.kIn J e (fun z => nomatch z) fun tk => ⟨.bl b, H, I.kept (t' := tk) fun _ _ z => z, rfl, q⟩
end L2
set_option Elab.async false
set_option linter.all false
set_option maxRecDepth 100000
set_option maxHeartbeats 4000000

/-! Data without addresses, the store, what stands for them in the abstract heap. -/
namespace Mn
open PySem L2

inductive D where
  | non | bl (b : Bool) | int (i : Int) | str (s : List Nat) | tup (xs : List D) | lst (xs : List D) | dct (kvs : List (D × D)) | ref (n : Nat)

inductive Cell where
  | L (xs : List D)
  | I (c : Nat) (fs : List (Nat × D))

structure Sto where
  c : List Cell
  w : Nat

inductive O where
  | v (d : D)
  | l (xs : List D)
  | x (c : Nat) (vs : List D)

abbrev Lcs := List (Option O)

inductive Re (α : Type) where
  | no
  | ok (a : α) (s : Sto)
  | ex (x : D) (s : Sto)

def Re.bind {α β : Type} (r : Re α) (f : α → Sto → Re β) : Re β := match r with
  | .no => .no
  | .ok a s => f a s
  | .ex x s => .ex x s

theorem Re.bind_ok {α β : Type} (a : α) (s : Sto) (f : α → Sto → Re β) : (Re.ok a s).bind f = f a s := rfl
theorem Re.bind_no {α β : Type} (f : α → Sto → Re β) : (Re.no : Re α).bind f = .no := rfl

def str (z : List Nat) : Str := ⟨z.toArray⟩
theorem str_list (z : List Nat) : (str z).cps.toList = z := by simp [str]
theorem str_len (z : List Nat) : (str z).length = z.length := by simp [str, Str.length]

/-! ### what stands for data -/
mutual
inductive RepD (K : PySem.W.Frag) (ρ : List Addr) (F : Hp) : V → D → Prop
  | non : RepD K ρ F .non .non
  | bl (b : Bool) : RepD K ρ F (.bl b) (.bl b)
  | int (i : Int) : RepD K ρ F (.int i) (.int i)
  | str (z : List Nat) : RepD K ρ F (.str (Mn.str z)) (.str z)
  | tup {a : Addr} {vs : List V} {ds : List D} : SqT K F a vs → RepL K ρ F vs ds → RepD K ρ F (.ref a) (.tup ds)
  | lst {a : Addr} {vs : List V} {ds : List D} : SqL K F a vs → RepL K ρ F vs ds → RepD K ρ F (.ref a) (.lst ds)
  | ref {n : Nat} {a : Addr} : ρ[n]? = some a → RepD K ρ F (.ref a) (.ref n)
  | dct {a : Addr} {ks : List (Key × V)} {xs : List (D × D)} : F a = some (.dK ks) → RepD K ρ F (.ref a) (.dct xs)
inductive RepL (K : PySem.W.Frag) (ρ : List Addr) (F : Hp) : List V → List D → Prop
  | nil : RepL K ρ F [] []
  | cons {v : V} {vs : List V} {d : D} {ds : List D} : RepD K ρ F v d → RepL K ρ F vs ds → RepL K ρ F (v :: vs) (d :: ds)
end

theorem Same.sqT {K : PySem.W.Frag} {H H' : Hp} {a : Addr} {xs : List V} (e : Same H H') (h : SqT K H a xs) : SqT K H' a xs := by
  rcases h with (h | ⟨o, h⟩) | h
  · exact .inl (.inl (e _ _ h))
  · exact .inl (.inr ⟨o, e _ _ h⟩)
  · exact .inr h

mutual
theorem RepD.mono {K : PySem.W.Frag} {ρ ρ' : List Addr} {F F' : Hp} (hr : ρ <+: ρ') (hf : Same F F') : ∀ {v : V} {d : D}, RepD K ρ F v d → RepD K ρ' F' v d
  | _, _, .non => .non
  | _, _, .bl b => .bl b
  | _, _, .int i => .int i
  | _, _, .str z => .str z
  | _, _, .tup h l => .tup (Same.sqT hf h) (RepL.mono hr hf l)
  | _, _, .lst h l => .lst (Same.seq hf h) (RepL.mono hr hf l)
  | _, _, .dct e => .dct (hf _ _ e)
  | _, _, .ref e => .ref (by
      obtain ⟨t, rfl⟩ := hr
      rw [List.getElem?_append_left (List.getElem?_eq_some_iff.mp e).1]
      exact e)
theorem RepL.mono {K : PySem.W.Frag} {ρ ρ' : List Addr} {F F' : Hp} (hr : ρ <+: ρ') (hf : Same F F') : ∀ {vs : List V} {ds : List D}, RepL K ρ F vs ds → RepL K ρ' F' vs ds
  | _, _, .nil => .nil
  | _, _, .cons h l => .cons (RepD.mono hr hf h) (RepL.mono hr hf l)
end

section
variable {K : PySem.W.Frag} {ρ : List Addr} {F : Hp}
theorem RepL.length : ∀ {vs : List V} {ds : List D}, RepL K ρ F vs ds → vs.length = ds.length
  | _, _, .nil => rfl
  | _, _, .cons _ l => by rw [List.length_cons, List.length_cons, RepL.length l]
theorem RepL.append : ∀ {vs ws : List V} {ds es : List D}, RepL K ρ F vs ds → RepL K ρ F ws es → RepL K ρ F (vs ++ ws) (ds ++ es)
  | _, _, _, _, .nil, k => k
  | _, _, _, _, .cons h l, k => .cons h (RepL.append l k)
theorem RepL.get : ∀ {vs : List V} {ds : List D} {i : Nat} {d : D}, RepL K ρ F vs ds → ds[i]? = some d → ∃ v, vs[i]? = some v ∧ RepD K ρ F v d
  | _, _, _, _, .nil, e => by simp at e
  | _, _, 0, _, .cons h _, e => by simp at e; subst e; exact ⟨_, rfl, h⟩
  | _, _, i + 1, d, .cons _ l, e => by
    obtain ⟨v, h1, h2⟩ := RepL.get (i := i) (d := d) l (by simpa using e)
    exact ⟨v, by simpa using h1, h2⟩
theorem RepL.set {v : V} {d : D} (h : RepD K ρ F v d) : ∀ {vs : List V} {ds : List D} (i : Nat), RepL K ρ F vs ds → RepL K ρ F (vs.set i v) (ds.set i d)
  | _, _, _, .nil => .nil
  | _, _, 0, .cons _ l => .cons h l
  | _, _, i + 1, .cons q l => .cons q (RepL.set h i l)
theorem RepL.take : ∀ {vs : List V} {ds : List D} (n : Nat), RepL K ρ F vs ds → RepL K ρ F (vs.take n) (ds.take n)
  | _, _, 0, _ => .nil
  | _, _, _ + 1, .nil => .nil
  | _, _, n + 1, .cons h l => .cons h (RepL.take n l)
theorem RepL.drop : ∀ {vs : List V} {ds : List D} (n : Nat), RepL K ρ F vs ds → RepL K ρ F (vs.drop n) (ds.drop n)
  | _, _, 0, l => l
  | _, _, _ + 1, .nil => .nil
  | _, _, n + 1, .cons _ l => RepL.drop n l
theorem RepL.reverse : ∀ {vs : List V} {ds : List D}, RepL K ρ F vs ds → RepL K ρ F vs.reverse ds.reverse
  | _, _, .nil => .nil
  | _, _, .cons h l => by
    rw [List.reverse_cons, List.reverse_cons]
    exact RepL.append (RepL.reverse l) (.cons h .nil)
end

/-- a cell's content -/
inductive RepC (K : PySem.W.Frag) (cm : List Addr) (nm : List Str) (ρ : List Addr) (F : Hp) : HO → Cell → Prop
  | L {vs : List V} {ds : List D} : RepL K ρ F vs ds → RepC K cm nm ρ F (.lst vs) (.L ds)
  | I {C dx : Addr} {c : Nat} {fv : List (Str × V)} {fs : List (Nat × D)} : cm[c]? = some C →
      Paired (fun (p : Str × V) (q : Nat × D) => nm[q.1]? = some p.1 ∧ RepD K ρ F p.2 q.2) fv fs → RepC K cm nm ρ F (.ins C dx fv) (.I c fs)

theorem RepC.mono {K : PySem.W.Frag} {cm : List Addr} {nm : List Str} {ρ ρ' : List Addr} {F F' : Hp} (hr : ρ <+: ρ') (hf : Same F F') {o : HO} {c : Cell} (h : RepC K cm nm ρ F o c) : RepC K cm nm ρ' F' o c := by
  cases h with
  | L l => exact .L (l.mono hr hf)
  | I e p => exact .I e (Paired.mapP p fun a b z => ⟨z.1, z.2.mono hr hf⟩)

structure StOk (K : PySem.W.Frag) (cm : List Addr) (nm : List Str) (ρ : List Addr) (F H : Hp) (s : Sto) : Prop where
  sub : Same F H
  len : ρ.length = s.c.length
  cell : ∀ (n : Nat) (a : Addr) (c : Cell), ρ[n]? = some a → s.c[n]? = some c → ∃ o, H a = some o ∧ RepC K cm nm ρ F o c
  off : ∀ a ∈ ρ, F a = none
  nd : ρ.Nodup

/-- what a run does to the heap: the frozen part and the cells grow, no tracked object but a cell is changed -/
structure Ext (ρ : List Addr) (F H : Hp) (s : Sto) (ρ' : List Addr) (F' H' : Hp) (s' : Sto) : Prop where
  pre : ρ <+: ρ'
  froz : Same F F'
  wle : s.w ≤ s'.w
  keep : ∀ b o, H b = some o → b ∉ ρ → H' b = some o
  still : s'.w = s.w → ∀ b o, H b = some o → H' b = some o
  there : ∀ b o, H b = some o → ∃ o', H' b = some o'
  newF : ∀ b o, F' b = some o → F b = some o ∨ H b = none
  newC : ∀ b ∈ ρ', b ∈ ρ ∨ H b = none

theorem Ext.refl (ρ : List Addr) (F H : Hp) (s : Sto) : Ext ρ F H s ρ F H s :=
  ⟨List.prefix_refl ρ, Same.refl F, Nat.le_refl _, fun _ _ h _ => h, fun _ _ _ h => h, fun _ o h => ⟨o, h⟩, fun _ _ h => .inl h, fun _ h => .inl h⟩

theorem Ext.trans {ρ ρ1 ρ2 : List Addr} {F F1 F2 H H1 H2 : Hp} {s s1 s2 : Sto} (a : Ext ρ F H s ρ1 F1 H1 s1) (b : Ext ρ1 F1 H1 s1 ρ2 F2 H2 s2) : Ext ρ F H s ρ2 F2 H2 s2 where
  pre := List.IsPrefix.trans a.pre b.pre
  froz := a.froz.trans b.froz
  wle := Nat.le_trans a.wle b.wle
  keep := fun c o h hn => by
    refine b.keep c o (a.keep c o h hn) fun hc => ?_
    rcases a.newC c hc with z | z
    · exact hn z
    · rw [h] at z; cases z
  still := fun e c o h => b.still (by have := a.wle; have := b.wle; omega) c o (a.still (by have := a.wle; have := b.wle; omega) c o h)
  there := fun c o h => by
    obtain ⟨o1, h1⟩ := a.there c o h
    exact b.there c o1 h1
  newF := fun c o h => by
    rcases b.newF c o h with z | z
    · exact a.newF c o z
    · refine .inr ?_
      cases q : H c with
      | none => rfl
      | some u =>
        obtain ⟨o1, h1⟩ := a.there c u q
        rw [h1] at z; cases z
  newC := fun c h => by
    rcases b.newC c h with z | z
    · exact a.newC c z
    · refine .inr ?_
      cases q : H c with
      | none => rfl
      | some u =>
        obtain ⟨o1, h1⟩ := a.there c u q
        rw [h1] at z; cases z

/-- a new object, frozen -/
theorem Ext.new {ρ : List Addr} {F H : Hp} {s : Sto} {p : Addr} {o : HO} (hs : Same F H) (hp : H p = none) : Ext ρ F H s ρ (upd F p o) (upd H p o) s where
  pre := List.prefix_refl ρ
  froz := fun b u h => by rw [upd_ne (ne_of_none (hs b u h) hp)]; exact h
  wle := Nat.le_refl _
  keep := fun b u h _ => by rw [upd_ne (ne_of_none h hp)]; exact h
  still := fun _ b u h => by rw [upd_ne (ne_of_none h hp)]; exact h
  there := fun b u h => ⟨u, by rw [upd_ne (ne_of_none h hp)]; exact h⟩
  newF := fun b u h => by
    by_cases e : b = p
    · subst e; exact .inr hp
    · rw [upd_ne e] at h; exact .inl h
  newC := fun b h => .inl h

/-! ### the small language -/
inductive MB where | add | sub | mul | fdiv | mod | pow
inductive MC where | eq | ne | lt | le | gt | ge | isin | notin | isN | notN | isB | notB
inductive Ty where | int | bool | str | tup | lst | dct
inductive BF where | len | abs | max2 | min2 | max3 | min3 | minL | maxL | minD | maxD | intOf | strOf | sum | all | any | tuple
inductive FF where | listOf | sorted | sortSet
inductive BM where | join | index | upper
inductive OM where | append | clear | pop0 | popAt
inductive MT where | one (i : Nat) | tup (is : List Nat) | two (i : Nat) (is : List Nat)

mutual
inductive ME where
  | int (i : Int) | str (z : List Nat) | non | bl (b : Bool)
  | gc (x : Str) (d : D)
  | var (i : Nat)
  | bin (o : MB) (a b : ME)
  | neg (a : ME)
  | cmp (o : MC) (a b : ME)
  | chain (o p : MC) (a b c : ME)
  | andL (es : MEs) | orL (es : MEs) | notE (a : ME)
  | ife (c : MQ) (a b : ME)
  | tup (es : MEs)
  | idx (a b : ME)
  | cutS (a : ME) (lo hi : MO)
  | fz (f : MF)
  | peek (i : Nat) (e : ME)
  | bi (f : BF) (es : MEs)
  | isi (a : ME) (t : Ty)
  | bm (m : BM) (o : ME) (es : MEs)
  | newL (es : MEs)
  | dct0 | dct1 (z : List Nat) (i : Int)
  | newI (c : Nat)
  | peekI (i : Nat) (e : ME)
  | isiC (a : ME) (x : Str) (tb : List (Nat × Bool))
  | lenSet (a : ME)
  | dft (mx : Bool) (a k : ME)
  | xfl (i : Nat) (f : Str) (cs : List Nat)
  | xis (i : Nat) (x : Str) (tb : List (Nat × Bool))
  | xit (i : Nat) (tbs : List (Str × List (Nat × Bool)))
inductive MEs where | nil | cons (e : ME) (es : MEs)
inductive MQ where | andQ (qs : MQs) | orQ (qs : MQs) | notQ (q : MQ) | cmpQ (o : MC) (a b : ME) | chainQ (o p : MC) (a b c : ME) | val (e : ME) | yes
inductive MQs where | nil | cons (q : MQ) (qs : MQs)
inductive MO where | none | some (e : ME)
inductive MF where
  | lst (es : MEs)
  | comp (own : List Nat) (tg : MT) (it : MI) (cnd : MQ) (elt : ME)
  | cutL (a : ME) (lo hi : MO)
  | rev (a : ME)
  | cat (a b : ME)
  | rep (f : MF) (b : ME)
  | bf (f : FF) (e : ME)
  | call (f : Nat) (es : MEs)
  | meth (tb : List (Nat × Nat)) (o : ME) (x : Str) (es : MEs)
  | repE (a b : ME)
  | lrange (a : ME)
  | sortK (f : Nat) (a : ME)
inductive MI where | seq (e : ME) | r1 (a : ME) | r2 (a b : ME) | r3 (a b c : ME) | zip (a b : ME)
end

/-- what becomes of the answer of a call at the top of a statement -/
inductive XW where | exp | asg (i : Nat) | tup (is : List Nat) | ret
mutual
inductive MS where
  | asg (i : Nat) (e : ME)
  | asgO (i : Nat) (f : MF)
  | asgC (i : Nat) (f : MF)
  | asgT (is : List Nat) (e : ME)
  | par (i j : Nat) (a b : ME)
  | aug (i : Nat) (o : MB) (e : ME)
  | setC (o k e : ME)
  | augC (o k : ME) (p : MB) (e : ME)
  | setO (i : Nat) (k e : ME)
  | augO (i : Nat) (k : ME) (p : MB) (e : ME)
  | mtO (m : OM) (i : Nat) (es : MEs)
  | mtC (m : OM) (o : ME) (es : MEs)
  | ifS (c : MQ) (a b : MSs)
  | whl (c : MQ) (b : MSs)
  | forS (tg : MT) (it : MI) (b : MSs)
  | ret (e : ME) | retF (f : MF) | retV (i : Nat) | retN
  | exp (e : ME)
  | pass | brk | cont
  | frz (i : Nat)
  | rais
  | raisC (c : Nat) (es : MEs)
  | cx (w : XW) (f : Nat) (es : MEs)
  | tryS (b : MSs) (hs : MHs)
inductive MSs where | nil | cons (s : MS) (r : MSs)
inductive MHs where | nil | cons (x : Str) (tb : List (Nat × Bool)) (i : Option Nat) (b : MSs) (r : MHs)
end

structure MFun where
  np : Nat
  ns : Nat
  body : MSs
structure Pg where
  funs : List MFun
  N : Nat

/-! ### what its operations tell -/
def line : Nat := 16777216
mutual
def D.plain : D → Bool
  | .non | .bl _ | .int _ | .str _ => true
  | .tup xs | .lst xs => D.plainL xs
  | .dct _ | .ref _ => false
def D.plainL : List D → Bool
  | [] => true
  | x :: xs => D.plain x && D.plainL xs
end
mutual
def D.py : D → PyData
  | .non => .none
  | .bl b => .bool b
  | .int i => .int i
  | .str z => .str (Mn.str z)
  | .tup xs => .tuple (D.pyL xs)
  | .lst xs => .list (D.pyL xs)
  | .dct _ => .none
  | .ref _ => .none
def D.pyL : List D → List PyData
  | [] => []
  | x :: xs => D.py x :: D.pyL xs
end
mutual
def D.dep : D → Nat
  | .tup xs | .lst xs => D.depL xs + 1
  | _ => 0
def D.depL : List D → Nat
  | [] => 0
  | x :: xs => max (D.dep x) (D.depL xs)
end
mutual
def D.eqv : D → D → Bool
  | .non, .non => true
  | .bl a, .bl b => decide (a = b)
  | .bl a, .int j => decide ((if a then (1 : Int) else 0) = j)
  | .int i, .bl b => decide (i = (if b then (1 : Int) else 0))
  | .int i, .int j => decide (i = j)
  | .str x, .str y => decide (x = y)
  | .lst xs, .lst ys => D.eqvL xs ys
  | .tup xs, .tup ys => D.eqvL xs ys
  | _, _ => false
def D.eqvL : List D → List D → Bool
  | [], [] => true
  | x :: xs, y :: ys => D.eqv x y && D.eqvL xs ys
  | [], _ :: _ => false
  | _ :: _, [] => false
end
/-! < of data: ints, texts, tuples up to the first unlike place -/
mutual
def D.lt : D → D → Bool
  | .int i, .int j => decide (i < j)
  | .str x, .str y => decide (x < y)
  | .tup xs, .tup ys => D.ltL xs ys
  | _, _ => false
def D.ltL : List D → List D → Bool
  | x :: xs, y :: ys => if D.eqv x y = true then D.ltL xs ys else D.lt x y
  | [], [] => false
  | [], _ :: _ => true
  | _ :: _, [] => false
end
mutual
def D.cok : D → D → Bool
  | .int _, .int _ => true
  | .str _, .str _ => true
  | .tup xs, .tup ys => D.cokL xs ys
  | _, _ => false
def D.cokL : List D → List D → Bool
  | x :: xs, y :: ys => if D.eqv x y = true then D.cokL xs ys else D.cok x y
  | [], _ => true
  | _ :: _, [] => true
end
def isIntD : D → Bool | .int _ => true | _ => false
def isStrD : D → Bool | .str _ => true | _ => false
def tupIntD : D → Bool | .tup (.int _ :: _) => true | _ => false
def tupStrD : D → Bool | .tup (.str _ :: _) => true | _ => false
def keyHom (ks : List D) : Bool := ks.all isIntD || ks.all isStrD || ks.all tupIntD || ks.all tupStrD
def sortOk (ks : List D) : Bool := ks.all (fun k => k.plain && decide (k.dep ≤ 30)) && ks.all (fun a => ks.all fun b => D.cok a b) && keyHom ks
def keyLeD (p q : D × D) : Bool := !PySem.W.dataLt q.1.py p.1.py
def sortKD (ks xs : List D) : List D := ((ks.zip xs).mergeSort keyLeD).map (·.2)
def D.scalar : D → Bool
  | .non | .bl _ | .int _ | .str _ => true
  | _ => false

def deref (s : Sto) : D → D
  | .ref n => match s.c[n]? with | some (.L xs) => .lst xs | _ => .ref n
  | d => d
def seqD (s : Sto) : D → Option (List D)
  | .lst xs => some xs
  | .tup xs => some xs
  | .ref n => match s.c[n]? with | some (.L xs) => some xs | _ => none
  | _ => none
def lift {α : Type} (o : Option α) (s : Sto) : Re α := match o with | some a => .ok a s | none => .no
def eqD (s : Sto) (a b : D) : Option Bool :=
  if (deref s a).plain = true ∧ (deref s b).plain = true ∧ min (deref s a).dep (deref s b).dep ≤ 60 then some (D.eqv (deref s a) (deref s b)) else none
def inD (s : Sto) (x y : D) : Option Bool :=
  match x, y with
  | .str [c], .str z => some (decide (c ∈ z))
  | x, y => match seqD s y with
    | some ys => if (deref s x).plain = true ∧ D.plainL ys = true ∧ min (D.depL ys) (deref s x).dep ≤ 60 then some (ys.any fun z => D.eqv z (deref s x)) else none
    | none => none
def mulOk (i j : Int) : Prop := i.natAbs.log2 + j.natAbs.log2 < 1000000
instance (i j : Int) : Decidable (mulOk i j) := by unfold mulOk; exact inferInstance
def binD (o : MB) (a b : D) : Option D :=
  match o, a, b with
  | .add, .int i, .int j => some (.int (i + j))
  | .add, .str x, .str y => if x.length + y.length ≤ line then some (.str (x ++ y)) else none
  | .sub, .int i, .int j => some (.int (i - j))
  | .mul, .int i, .int j => if mulOk i j then some (.int (i * j)) else none
  | .mul, .str x, .int j => if 0 ≤ j ∧ j < 1000000 ∧ x.length * j.toNat ≤ line then some (.str (List.replicate j.toNat x).flatten) else none
  | .fdiv, .int i, .int j => if 0 < j ∧ j.natAbs.log2 < 9000 then some (.int (i / j)) else none
  | .mod, .int i, .int j => if 0 < j then some (.int (i % j)) else none
  | .pow, .int i, .int j => if 0 ≤ j ∧ ((i.natAbs.log2 + 1 : Nat) : Int) * j ≤ 1000000 then some (.int (i ^ j.toNat)) else none
  | _, _, _ => none
def cmpD (o : MC) (s : Sto) (a b : D) : Option Bool :=
  match o with
  | .eq => eqD s a b
  | .ne => (eqD s a b).map not
  | .isin => inD s a b
  | .notin => (inD s a b).map not
  | .isN => match b with | .non => some (match a with | .non => true | _ => false) | _ => none
  | .notN => match b with | .non => some (match a with | .non => false | _ => true) | _ => none
  | .isB => match a, b with | .bl x, .bl y => some (decide (x = y)) | _, _ => none
  | .notB => match a, b with | .bl x, .bl y => some (!decide (x = y)) | _, _ => none
  | .lt => match a, b with | .int i, .int j => some (decide (i < j)) | .str x, .str y => some (decide (x < y)) | .tup xs, .tup ys => if D.plainL xs = true ∧ D.plainL ys = true ∧ D.depL xs ≤ 30 ∧ D.cokL xs ys = true then some (D.ltL xs ys) else none | _, _ => none
  | .le => match a, b with | .int i, .int j => some (decide (i ≤ j)) | _, _ => none
  | .gt => match a, b with | .int i, .int j => some (decide (j < i)) | .str x, .str y => some (decide (y < x)) | _, _ => none
  | .ge => match a, b with | .int i, .int j => some (decide (j ≤ i)) | _, _ => none
def truth (s : Sto) : D → Option Bool
  | .non => some false
  | .bl b => some b
  | .int i => some (i != 0)
  | .str z => if z.length ≤ line then some (decide (z ≠ [])) else none
  | d => (seqD s d).map fun xs => !xs.isEmpty
def idxD (s : Sto) (a b : D) : Option D :=
  match b with
  | .int i => match a with
    | .str z => if z.length ≤ line then (atI z i).map fun c => .str [c] else none
    | a => (seqD s a).bind fun xs => atI xs i
  | _ => none
def cutG {α : Type} (xs : List α) (lo hi : Option Int) : List α :=
  (xs.drop (HT.sIx xs.length 0 lo)).take (HT.sIx xs.length xs.length hi - HT.sIx xs.length 0 lo)
def cutSD (a : D) (lo hi : Option Int) : Option D :=
  match a with
  | .str z => if z.length ≤ line then some (.str (cutG z lo hi)) else none
  | _ => none
def isiD (s : Sto) (d : D) (t : Ty) : Option Bool :=
  match d with
  | .non => some false
  | .bl _ => some (match t with | .int => true | .bool => true | _ => false)
  | .int _ => some (match t with | .int => true | _ => false)
  | .str _ => some (match t with | .str => true | _ => false)
  | .tup _ => some (match t with | .tup => true | _ => false)
  | .lst _ => some (match t with | .lst => true | _ => false)
  | .dct _ => some (match t with | .dct => true | _ => false)
  | .ref n => match s.c[n]? with | some (.L _) => some (match t with | .lst => true | _ => false) | _ => none
def intsD : List D → Option (List Int)
  | [] => some []
  | .int i :: r => (intsD r).map (i :: ·)
  | _ => none
def boolsD : List D → Option (List Bool)
  | [] => some []
  | .bl i :: r => (boolsD r).map (i :: ·)
  | _ => none
def intL (ns : List Int) : List D := ns.map .int
/-- sorted: ints, pairs of ints; the sorted list of what is unlike -/
def insI (x : Int) : List Int → List Int
  | [] => [x]
  | y :: ys => if x ≤ y then x :: y :: ys else y :: insI x ys
def sortI (ns : List Int) : List Int := ns.foldr insI []
def insU (x : Int) : List Int → List Int
  | [] => [x]
  | y :: ys => if x < y then x :: y :: ys else if x = y then y :: ys else y :: insU x ys
def setI (ns : List Int) : List Int := ns.foldr insU []
def pairsD : List D → Option (List (Int × Int))
  | [] => some []
  | .tup [.int i, .int j] :: r => (pairsD r).map ((i, j) :: ·)
  | _ => none
def insP (x : Int × Int) : List (Int × Int) → List (Int × Int)
  | [] => [x]
  | y :: ys => if y.1 < x.1 ∨ (y.1 = x.1 ∧ y.2 < x.2) then y :: insP x ys else x :: y :: ys
def sortP (ns : List (Int × Int)) : List (Int × Int) := ns.foldr insP []
def pairL (ps : List (Int × Int)) : List D := ps.map fun p => .tup [.int p.1, .int p.2]
def sortD (xs : List D) : Option (List D) := match intsD xs with
  | some ns => some (intL (sortI ns))
  | none => (pairsD xs).map fun ps => pairL (sortP ps)
/-- the class of an instance -/
def insD (s : Sto) (d : D) : Option Nat := match d with
  | .ref n => (match s.c[n]? with | some (.I c _) => some c | _ => none)
  | _ => none
def minI (x : Int) (xs : List Int) : Int := xs.foldl (fun a b => if b < a then b else a) x
def maxI (x : Int) (xs : List Int) : Int := xs.foldl (fun a b => if a < b then b else a) x
def dfName (mx : Bool) : Str := if mx then "max" else "min"
def listD (s : Sto) (d : D) : Option (List D) := match deref s d with | .lst xs => some xs | _ => none
def dftI (mx : Bool) (k : Int) : List Int → Int | [] => k | n :: r => if mx then maxI n r else minI n r
def dftD (mx : Bool) (s : Sto) (x y : D) : Option D := match y with | .int k => (listD s x).bind fun xs => (intsD xs).map fun ns => .int (dftI mx k ns) | _ => none
def biD (f : BF) (s : Sto) (ds : List D) : Option D :=
  match f, ds with
  | .len, [.str z] => if z.length ≤ line then some (.int z.length) else none
  | .len, [d] => (seqD s d).map fun xs => .int xs.length
  | .abs, [.int i] => some (.int (if i < 0 then -i else i))
  | .max2, [.int i, .int j] => some (.int (if i < j then j else i))
  | .min2, [.int i, .int j] => some (.int (if j < i then j else i))
  | .minL, [d] => (listD s d).bind fun xs => (intsD xs).bind fun ns => match ns with | [] => none | n :: r => some (.int (minI n r))
  | .maxL, [d] => (listD s d).bind fun xs => (intsD xs).bind fun ns => match ns with | [] => none | n :: r => some (.int (maxI n r))
  | .max3, [.int i, .int j, .int k] => some (.int (maxI i [j, k]))
  | .min3, [.int i, .int j, .int k] => some (.int (minI i [j, k]))
  | .sum, [d] => (listD s d).bind fun xs => (intsD xs).map fun ns => .int ns.sum
  | .all, [d] => (listD s d).bind fun xs => (boolsD xs).map fun bs => .bl (bs.all id)
  | .any, [d] => (listD s d).bind fun xs => (boolsD xs).map fun bs => .bl (bs.any id)
  | .tuple, [.tup xs] => some (.tup xs)
  | .tuple, [d] => (listD s d).map .tup
  | .intOf, [.int i] => some (.int i)
  | .intOf, [.bl b] => some (.int (if b then 1 else 0))
  | _, _ => none
def strsD : List D → Option (List (List Nat))
  | [] => some []
  | .str z :: r => (strsD r).map (z :: ·)
  | _ => none
def bmD (m : BM) (s : Sto) (x : D) (ds : List D) : Option D := match m, x, ds with
  | .join, .str a, [d] => (listD s d).bind fun xs => (strsD xs).bind fun zs => if (zs.map (·.length)).sum + zs.length * a.length ≤ line then some (.str (TL.joinL a zs)) else none
  | .upper, .str a, [] => if a.length ≤ 500 ∧ a.all (fun c => decide (c < 128)) = true then some (.str (a.map PyProof.Rows.up1)) else none
  | .index, .str a, [.str b] => (match PySem.Builtin.Str.occurrences (str a) (str b) 0 (str a).length 1 with | i :: _ => some (.int (i : Nat)) | [] => none)
  | _, _, _ => none
end Mn
set_option Elab.async false
set_option linter.all false
set_option maxRecDepth 100000
set_option maxHeartbeats 4000000
/-! The small language run. -/
namespace Mn
open PySem L2

def wipeL (δ : Lcs) : List Nat → Lcs
  | [] => δ
  | v :: vs => (wipeL δ vs).set v none
def setsL (δ : Lcs) : List Nat → List D → Option Lcs
  | [], [] => some δ
  | i :: is, d :: ds => setsL (δ.set i (some (.v d))) is ds
  | _, _ => none
def bindT (t : MT) (x : D) (δ : Lcs) : Option Lcs :=
  match t with
  | .one i => some (δ.set i (some (.v x)))
  | .tup is => match x with | .tup xs => setsL δ is xs | _ => none
  | .two i is => match x with | .tup [a, .tup xs] => setsL (δ.set i (some (.v a))) is xs | _ => none

/-- what a walk goes over: the items, and the cell that holds them (it must stand still) -/
structure Wk where
  xs : List D
  at_ : Option Nat
def Wk.still (t : Wk) (s : Sto) : Prop := match t.at_ with | none => True | some n => s.c[n]? = some (.L t.xs)

def itsOf (s : Sto) : D → Option Wk
  | .lst xs => some ⟨xs, none⟩
  | .tup xs => some ⟨xs, none⟩
  | .str z => some ⟨z.map fun c => .str [c], none⟩
  | .ref n => match s.c[n]? with | some (.L xs) => some ⟨xs, some n⟩ | _ => none
  | _ => none
def small (i : Int) : Prop := -(2 ^ 62) ≤ i ∧ i < 2 ^ 62
instance (i : Int) : Decidable (small i) := by unfold small; exact inferInstance
def dnFrom (hi : Int) (n : Nat) : List D := (List.range n).map fun (k : Nat) => D.int (hi + (k : Int) * -1)
def upFrom (lo : Int) (n : Nat) : List D := (List.range n).map fun (k : Nat) => D.int (lo + (k : Int))

def zipL (xs ys : List D) : List D := List.zipWith (fun x y => D.tup [x, y]) xs ys
def anyT (c : Nat) : List (Str × List (Nat × Bool)) → Option Bool
  | [] => some false
  | (_, tb) :: r => match tb.lookup c, anyT c r with | some b1, some b2 => some (b1 || b2) | _, _ => none
noncomputable section
def compGo (t : Wk) (g : D → Sto → Re (Option D)) : List D → Sto → Re (List D)
  | [], s => @ite _ (t.still s) (Classical.propDecidable _) (.ok [] s) .no
  | x :: xs, s => @ite _ (t.still s) (Classical.propDecidable _) ((g x s).bind fun o s1 => (compGo t g xs s1).bind fun ys s2 => .ok (o.toList ++ ys) s2) .no

section
variable (cf : Nat → List D → Sto → Re O)
/-- the keys of the items, one after the other -/
def keysGo (f : Nat) : List D → Sto → Re (List D)
  | [], s => .ok [] s
  | x :: xs, s => (cf f [x] s).bind fun o s1 => match o with | .v d => (keysGo f xs s1).bind fun ds s2 => .ok (d :: ds) s2 | _ => .no
mutual
def evalE : ME → Lcs → Sto → Re D
  | .int i, _, s => .ok (.int i) s
  | .str z, _, s => .ok (.str z) s
  | .non, _, s => .ok .non s
  | .bl b, _, s => .ok (.bl b) s
  | .gc _ d, _, s => .ok d s
  | .var i, δ, s => match δ[i]? with | some (some (.v d)) => .ok d s | _ => .no
  | .bin o a b, δ, s => (evalE a δ s).bind fun x s1 => (evalE b δ s1).bind fun y s2 => lift (binD o x y) s2
  | .neg a, δ, s => (evalE a δ s).bind fun x s1 => match x with | .int i => .ok (.int (-i)) s1 | _ => .no
  | .cmp o a b, δ, s => (evalE a δ s).bind fun x s1 => (evalE b δ s1).bind fun y s2 => lift ((cmpD o s2 x y).map .bl) s2
  | .chain o p a b c, δ, s => (evalE a δ s).bind fun x s1 => (evalE b δ s1).bind fun y s2 => (lift (cmpD o s2 x y) s2).bind fun k s3 =>
      if k = true then (evalE c δ s3).bind fun z s4 => lift ((cmpD p s4 y z).map .bl) s4 else .ok (.bl false) s3
  | .andL es, δ, s => evalAnd es δ s
  | .orL es, δ, s => evalOr es δ s
  | .notE a, δ, s => (evalE a δ s).bind fun x s1 => lift ((truth s1 x).map fun b => .bl (!b)) s1
  | .ife c a b, δ, s => (evalT c δ s).bind fun k s1 => if k = true then evalE a δ s1 else evalE b δ s1
  | .tup es, δ, s => (evalEs es δ s).bind fun ds s1 => if ds.length ≤ line then .ok (.tup ds) s1 else .no
  | .idx a b, δ, s => (evalE a δ s).bind fun x s1 => (evalE b δ s1).bind fun y s2 => lift (idxD s2 x y) s2
  | .cutS a lo hi, δ, s => (evalE a δ s).bind fun x s1 => (evalP lo δ s1).bind fun l s2 => (evalP hi δ s2).bind fun h s3 => lift (cutSD x l h) s3
  | .fz f, δ, s => (evalF f δ s).bind fun o s1 => match o with | .v d => .ok d s1 | .l xs => .ok (.lst xs) s1 | .x _ _ => .ok .non s1
  | .xfl i _ cs, δ, s => match δ[i]? with | some (some (.x c [v])) => if cs.contains c = true then .ok v s else .no | _ => .no
  | .xit i tbs, δ, s => match δ[i]? with | some (some (.x c _)) => lift ((anyT c tbs).map .bl) s | _ => .no
  | .xis i _ tb, δ, s => match δ[i]? with | some (some (.x c _)) => lift ((tb.lookup c).map .bl) s | _ => .no
  | .peek i e, δ, s => match δ[i]? with
    | some (some (.l xs)) => (match evalE e (δ.set i (some (.v (.lst xs)))) s with
      | .ok d s1 => @ite _ (s1 = s ∧ d.scalar = true) (Classical.propDecidable _) (.ok d s) .no
      | _ => .no)
    | _ => .no
  | .bi f es, δ, s => (evalEs es δ s).bind fun ds s1 => lift (biD f s1 ds) s1
  | .dft mx a k, δ, s => (evalE a δ s).bind fun x s1 => (evalE k δ s1).bind fun y s2 => lift (dftD mx s2 x y) s2
  | .isi a t, δ, s => (evalE a δ s).bind fun x s1 => lift ((isiD s1 x t).map .bl) s1
  | .bm m o es, δ, s => (evalE o δ s).bind fun x s1 => (evalEs es δ s1).bind fun ds s2 => lift (bmD m s2 x ds) s2
  | .newL es, δ, s => (evalEs es δ s).bind fun ds s1 => if ds.length ≤ line then .ok (.ref s1.c.length) ⟨s1.c ++ [.L ds], s1.w⟩ else .no
  | .dct0, _, s => .ok (.dct []) s
  | .dct1 z i, _, s => .ok (.dct [(.str z, .int i)]) s
  | .peekI i e, δ, s => (evalE e δ s).bind fun y s1 => match δ[i]? with
    | some (some (.l xs)) => (match idxD s1 (.lst xs) y with | some d => if d.scalar = true then .ok d s1 else .no | none => .no)
    | _ => .no
  | .newI c, _, s => .ok (.ref s.c.length) ⟨s.c ++ [.I c []], s.w⟩
  | .isiC a _ tb, δ, s => (evalE a δ s).bind fun d s1 => match insD s1 d with | some c => lift ((tb.lookup c).map .bl) s1 | none => .no
  | .lenSet a, δ, s => (evalE a δ s).bind fun d s1 => match (seqD s1 d).bind intsD with | some ns => if ns.length ≤ 1000 then .ok (.int (setI ns).length) s1 else .no | none => .no
def evalT : MQ → Lcs → Sto → Re Bool
  | .andQ qs, δ, s => evalAndT qs δ s
  | .orQ qs, δ, s => evalOrT qs δ s
  | .notQ q, δ, s => (evalT q δ s).bind fun b s1 => .ok (!b) s1
  | .cmpQ o a b, δ, s => (evalE a δ s).bind fun x s1 => (evalE b δ s1).bind fun y s2 => lift (cmpD o s2 x y) s2
  | .chainQ o p a b c, δ, s => (evalE a δ s).bind fun x s1 => (evalE b δ s1).bind fun y s2 => (lift (cmpD o s2 x y) s2).bind fun k s3 =>
      if k = true then (evalE c δ s3).bind fun z s4 => lift (cmpD p s4 y z) s4 else .ok false s3
  | .val e, δ, s => (evalE e δ s).bind fun x s1 => lift (truth s1 x) s1
  | .yes, _, s => .ok true s
def evalEs : MEs → Lcs → Sto → Re (List D)
  | .nil, _, s => .ok [] s
  | .cons e es, δ, s => (evalE e δ s).bind fun x s1 => (evalEs es δ s1).bind fun xs s2 => .ok (x :: xs) s2
def evalAnd : MEs → Lcs → Sto → Re D
  | .nil, _, _ => .no
  | .cons e .nil, δ, s => evalE e δ s
  | .cons e es, δ, s => (evalE e δ s).bind fun x s1 => (lift (truth s1 x) s1).bind fun k s2 => if k = true then evalAnd es δ s2 else .ok x s2
def evalOr : MEs → Lcs → Sto → Re D
  | .nil, _, _ => .no
  | .cons e .nil, δ, s => evalE e δ s
  | .cons e es, δ, s => (evalE e δ s).bind fun x s1 => (lift (truth s1 x) s1).bind fun k s2 => if k = true then .ok x s2 else evalOr es δ s2
def evalAndT : MQs → Lcs → Sto → Re Bool
  | .nil, _, _ => .no
  | .cons e .nil, δ, s => evalT e δ s
  | .cons e es, δ, s => (evalT e δ s).bind fun x s1 => if x = true then evalAndT es δ s1 else .ok false s1
def evalOrT : MQs → Lcs → Sto → Re Bool
  | .nil, _, _ => .no
  | .cons e .nil, δ, s => evalT e δ s
  | .cons e es, δ, s => (evalT e δ s).bind fun x s1 => if x = true then .ok true s1 else evalOrT es δ s1
def evalP : MO → Lcs → Sto → Re (Option Int)
  | .none, _, s => .ok none s
  | .some e, δ, s => (evalE e δ s).bind fun x s1 => match x with | .int i => .ok (some i) s1 | _ => .no
def evalF : MF → Lcs → Sto → Re O
  | .lst es, δ, s => (evalEs es δ s).bind fun ds s1 => if ds.length ≤ line then .ok (.l ds) s1 else .no
  | .comp own tg it cnd elt, δ, s => (evalI it δ s).bind fun t s1 => if t.xs.length ≤ line then
      (compGo t (fun x s2 => match bindT tg x (wipeL δ own) with
        | some δ1 => (evalT cnd δ1 s2).bind fun b s3 => if b = true then (evalE elt δ1 s3).bind fun d s4 => .ok (some d) s4 else .ok none s3
        | none => .no) t.xs s1).bind fun ds s5 => .ok (.l ds) s5 else .no
  | .cutL a lo hi, δ, s => (evalE a δ s).bind fun x s1 => (evalP lo δ s1).bind fun l s2 => (evalP hi δ s2).bind fun h s3 => match deref s3 x with | .lst xs => .ok (.l (cutG xs l h)) s3 | _ => .no
  | .rev a, δ, s => (evalE a δ s).bind fun x s1 => match deref s1 x with | .lst xs => .ok (.l xs.reverse) s1 | _ => .no
  | .cat a b, δ, s => (evalE a δ s).bind fun x s1 => (evalE b δ s1).bind fun y s2 => match deref s2 x, deref s2 y with
    | .lst xs, .lst ys => if xs.length + ys.length ≤ line then .ok (.l (xs ++ ys)) s2 else .no
    | _, _ => .no
  | .rep f b, δ, s => (evalF f δ s).bind fun x s1 => (evalE b δ s1).bind fun y s2 => match x, y with
    | .l xs, .int k => if 0 ≤ k ∧ k < 1000000 ∧ xs.length * k.toNat ≤ line then .ok (.l (List.replicate k.toNat xs).flatten) s2 else .no
    | _, _ => .no
  | .repE a b, δ, s => (evalE a δ s).bind fun x s1 => (evalE b δ s1).bind fun y s2 => match deref s2 x, y with
    | .lst xs, .int k => if 0 ≤ k ∧ k < 1000000 ∧ xs.length * k.toNat ≤ line then .ok (.l (List.replicate k.toNat xs).flatten) s2 else .no
    | _, _ => .no
  | .lrange a, δ, s => (evalE a δ s).bind fun x s1 => match x with | .int j => if 0 ≤ j ∧ j ≤ 16777216 then .ok (.l (upFrom 0 j.toNat)) s1 else .no | _ => .no
  | .sortK f a, δ, s => (evalE a δ s).bind fun x s1 => match listD s1 x with
    | some xs => (keysGo cf f xs s1).bind fun ks s2 => if sortOk ks = true then .ok (.l (sortKD ks xs)) s2 else .no
    | none => .no
  | .bf f e, δ, s => (evalE e δ s).bind fun x s1 => match f with
    | .listOf => (match seqD s1 x with | some xs => .ok (.l xs) s1 | none => .no)
    | .sorted => (match (listD s1 x).bind sortD with | some ys => .ok (.l ys) s1 | none => .no)
    | .sortSet => (match (seqD s1 x).bind intsD with | some ns => if ns.length ≤ 1000 then .ok (.l (intL (setI ns))) s1 else .no | none => .no)
  | .call f es, δ, s => (evalEs es δ s).bind fun ds s1 => cf f ds s1
  | .meth tb o _ es, δ, s => (evalE o δ s).bind fun d s1 => match (insD s1 d).bind fun c => tb.lookup c with
    | some f => (evalEs es δ s1).bind fun ds s2 => cf f (d :: ds) s2
    | none => .no
def evalI : MI → Lcs → Sto → Re Wk
  | .seq e, δ, s => (evalE e δ s).bind fun x s1 => lift (itsOf s1 x) s1
  | .r1 a, δ, s => (evalE a δ s).bind fun x s1 => match x with | .int j => if small j then .ok ⟨upFrom 0 j.toNat, none⟩ s1 else .no | _ => .no
  | .r2 a b, δ, s => (evalE a δ s).bind fun x s1 => (evalE b δ s1).bind fun y s2 => match x, y with
    | .int i, .int j => if small i ∧ small j then .ok ⟨upFrom i (j - i).toNat, none⟩ s2 else .no
    | _, _ => .no
  | .r3 a b c, δ, s => (evalE a δ s).bind fun x s1 => (evalE b δ s1).bind fun y s2 => (evalE c δ s2).bind fun z s3 => match x, y, z with
    | .int i, .int j, .int k => if small i ∧ small j ∧ k = -1 then .ok ⟨dnFrom i (i - j).toNat, none⟩ s3 else .no
    | _, _, _ => .no
  | .zip a b, δ, s => (evalE a δ s).bind fun x s1 => (evalE b δ s1).bind fun y s2 => match x, y with
    | .lst xs, .lst ys => .ok ⟨zipL xs ys, none⟩ s2
    | _, _ => .no
end

inductive Rs where
  | no
  | nx (s : Sto) (δ : Lcs) | bk (s : Sto) (δ : Lcs) | ct (s : Sto) (δ : Lcs)
  | ret (o : O) (s : Sto)
  | ex (x : D) (s : Sto) (δ : Lcs)
def Re.run {α : Type} (r : Re α) (f : α → Sto → Rs) : Rs := match r with
  | .no => .no
  | .ok a s => f a s
  | .ex _ _ => .no

def whlGo (t : Lcs → Sto → Re Bool) (b : Sto → Lcs → Rs) : Nat → Sto → Lcs → Rs
  | 0, _, _ => .no
  | n + 1, s, δ => (t δ s).run fun k s1 => if k = true then
      (match b s1 δ with
        | .nx s2 δ2 => whlGo t b n s2 δ2
        | .ct s2 δ2 => whlGo t b n s2 δ2
        | .bk s2 δ2 => .nx s2 δ2
        | r => r)
    else .nx s1 δ
def forGo (t : Wk) (tg : MT) (b : Sto → Lcs → Rs) : List D → Sto → Lcs → Rs
  | [], s, δ => @ite _ (t.still s) (Classical.propDecidable _) (.nx s δ) .no
  | x :: xs, s, δ => @ite _ (t.still s) (Classical.propDecidable _) (match bindT tg x δ with
    | some δ1 => (match b s δ1 with
        | .nx s2 δ2 => forGo t tg b xs s2 δ2
        | .ct s2 δ2 => forGo t tg b xs s2 δ2
        | .bk s2 δ2 => .nx s2 δ2
        | r => r)
    | none => .no) .no

def cxOk (w : XW) (o : O) (s : Sto) (δ : Lcs) : Rs := match w with
  | .exp => .nx s δ
  | .asg i => .nx s (δ.set i (some o))
  | .tup is => (match o with | .v (.tup xs) => (match setsL δ is xs with | some δ1 => .nx s δ1 | none => .no) | _ => .no)
  | .ret => .ret o s
def heldL (δ : Lcs) (c : Nat) (vs : List D) : Option Nat → Lcs | none => δ | some i => δ.set i (some (.x c vs))
def goneL (δ : Lcs) : Option Nat → Lcs | none => δ | some i => δ.set i none
def goneR (i : Option Nat) : Rs → Rs
  | .nx s δ => .nx s (goneL δ i)
  | .bk s δ => .bk s (goneL δ i)
  | .ct s δ => .ct s (goneL δ i)
  | .ret o s => .ret o s
  | _ => .no
def augD (o : MB) (a b : D) : Option D := match o, a, b with
  | .add, .int i, .int j => some (.int (i + j))
  | .sub, .int i, .int j => some (.int (i - j))
  | _, _, _ => none
/-- a list's method that changes it: what it holds behind, what is told -/
def omD (m : OM) (xs : List D) (ds : List D) : Option (List D × D) :=
  match m, ds with
  | .append, [d] => if xs.length < line then some (xs ++ [d], .non) else none
  | .clear, [] => some ([], .non)
  | .pop0, [] => (xs[xs.length - 1]?).map fun y => (xs.dropLast, y)
  | .popAt, [.int i] => if small i then (seqIndex? i xs.length).bind fun k => (xs[k]?).map fun y => (xs.eraseIdx k, y) else none
  | _, _ => none
def setAt (xs : List D) (k : D) (d : D) : Option (List D) := match k with
  | .int i => (ixN xs.length i).map fun j => xs.set j d
  | _ => none

variable (N : Nat)
mutual
def exec : MS → Sto → Lcs → Rs
  | .asg i e, s, δ => (evalE cf e δ s).run fun d s1 => .nx s1 (δ.set i (some (.v d)))
  | .asgO i f, s, δ => (evalF cf f δ s).run fun o s1 => .nx s1 (δ.set i (some o))
  | .asgC i f, s, δ => (evalF cf f δ s).run fun o s1 => match o with
    | .l xs => .nx ⟨s1.c ++ [.L xs], s1.w⟩ (δ.set i (some (.v (.ref s1.c.length))))
    | _ => .no
  | .asgT is e, s, δ => (evalE cf e δ s).run fun d s1 => match d with
    | .tup xs => (match setsL δ is xs with | some δ1 => .nx s1 δ1 | none => .no)
    | _ => .no
  | .par i j a b, s, δ => (evalE cf a δ s).run fun x s1 => (evalE cf b δ s1).run fun y s2 => .nx s2 ((δ.set i (some (.v x))).set j (some (.v y)))
  | .aug i o e, s, δ => match δ[i]? with
    | some (some (.v x)) => (evalE cf e δ s).run fun y s1 => (match augD o x y with | some z => .nx s1 (δ.set i (some (.v z))) | none => .no)
    | _ => .no
  | .setC o k e, s, δ => (evalE cf e δ s).run fun d s1 => (evalE cf o δ s1).run fun x s2 => (evalE cf k δ s2).run fun y s3 => match x with
    | .ref n => (match s3.c[n]? with
      | some (.L xs) => (match setAt xs y d with | some ys => .nx ⟨s3.c.set n (.L ys), s3.w + 1⟩ δ | none => .no)
      | _ => .no)
    | _ => .no
  | .augC o k p e, s, δ => (evalE cf o δ s).run fun x s1 => (evalE cf k δ s1).run fun y s2 => match idxD s2 x y with
    | some z => (evalE cf e δ s2).run fun d s3 => (match augD p z d with
      | some w => (match x with
        | .ref n => (match s3.c[n]? with
          | some (.L xs) => (match setAt xs y w with | some ys => .nx ⟨s3.c.set n (.L ys), s3.w + 1⟩ δ | none => .no)
          | _ => .no)
        | _ => .no)
      | none => .no)
    | none => .no
  | .setO i k e, s, δ => (evalE cf e δ s).run fun d s1 => (evalE cf k δ s1).run fun y s2 => match δ[i]? with
    | some (some (.l xs)) => (match setAt xs y d with | some ys => .nx s2 (δ.set i (some (.l ys))) | none => .no)
    | _ => .no
  | .augO i k p e, s, δ => (evalE cf k δ s).run fun y s1 => match δ[i]? with
    | some (some (.l xs)) => (match idxD s1 (.lst xs) y with
      | some z => (evalE cf e δ s1).run fun d s2 => (match augD p z d with
        | some w => (match setAt xs y w with | some ys => .nx s2 (δ.set i (some (.l ys))) | none => .no)
        | none => .no)
      | none => .no)
    | _ => .no
  | .mtO m i es, s, δ => (evalEs cf es δ s).run fun ds s1 => match δ[i]? with
    | some (some (.l xs)) => (match omD m xs ds with | some (ys, _) => .nx s1 (δ.set i (some (.l ys))) | none => .no)
    | _ => .no
  | .mtC m o es, s, δ => (evalE cf o δ s).run fun x s1 => match x with
    | .ref n => (match s1.c[n]? with
      | some (.L _) => (evalEs cf es δ s1).run fun ds s2 => (match s2.c[n]? with
        | some (.L xs) => (match omD m xs ds with | some (ys, _) => .nx ⟨s2.c.set n (.L ys), s2.w + 1⟩ δ | none => .no)
        | _ => .no)
      | _ => .no)
    | _ => .no
  | .ifS c a b, s, δ => (evalT cf c δ s).run fun k s1 => if k = true then execs a s1 δ else execs b s1 δ
  | .whl c b, s, δ => whlGo (evalT cf c) (execs b) N s δ
  | .forS tg it b, s, δ => (evalI cf it δ s).run fun t s1 => forGo t tg (execs b) t.xs s1 δ
  | .ret e, s, δ => (evalE cf e δ s).run fun d s1 => .ret (.v d) s1
  | .retF f, s, δ => (evalF cf f δ s).run fun o s1 => .ret o s1
  | .retV i, s, δ => match δ[i]? with | some (some (.v d)) => .ret (.v d) s | some (some (.l xs)) => .ret (.l xs) s | _ => .no
  | .retN, s, _ => .ret (.v .non) s
  | .exp e, s, δ => (evalE cf e δ s).run fun _ s1 => .nx s1 δ
  | .pass, s, δ => .nx s δ
  | .brk, s, δ => .bk s δ
  | .cont, s, δ => .ct s δ
  | .frz i, s, δ => match δ[i]? with
    | some (some (.l xs)) => .nx s (δ.set i (some (.v (.lst xs))))
    | _ => .nx s δ
  | .rais, _, _ => .no
  | .raisC c es, s, δ => (evalEs cf es δ s).run fun ds s1 => .ex (.tup (.int (c : Int) :: ds)) s1 δ
  | .cx w f es, s, δ => (evalEs cf es δ s).run fun ds s1 => match cf f ds s1 with
    | .ok o s2 => cxOk w o s2 δ
    | .ex x s2 => .ex x s2 δ
    | .no => .no
  | .tryS b hs, s, δ => match execs b s δ with
    | .ex x s1 δ1 => handle hs x s1 δ1
    | r => r
def handle : MHs → D → Sto → Lcs → Rs
  | .nil, x, s, δ => .ex x s δ
  | .cons _ tb i b r, x, s, δ => match x with
    | .tup (.int c :: vs) => (match tb.lookup c.toNat with
      | some true => goneR i (execs b s (heldL δ c.toNat vs i))
      | some false => handle r x s δ
      | none => .no)
    | _ => .no
def execs : MSs → Sto → Lcs → Rs
  | .nil, s, δ => .nx s δ
  | .cons a r, s, δ => match exec a s δ with
    | .nx s1 δ1 => execs r s1 δ1
    | q => q
end
end

/-- the call of the f-th def, at most k calls deep -/
def call (P : Pg) : Nat → Nat → List D → Sto → Re O
  | 0, _, _, _ => .no
  | k + 1, f, ds, s => match P.funs[f]? with
    | some m => if ds.length = m.np then
        (match execs (call P k) P.N m.body s (ds.map (fun d => some (.v d)) ++ List.replicate (m.ns - m.np) none) with
          | .nx s1 _ => .ok (.v .non) s1
          | .ret o s1 => .ok o s1
          | .ex x s1 _ => .ex x s1
          | _ => .no)
      else .no
    | none => .no
end
end Mn
set_option Elab.async false
set_option linter.all false
set_option maxRecDepth 100000
set_option maxHeartbeats 4000000
/-! What a run of the small language asks of the abstract heap. -/
namespace Mn
open PySem L2

/-- the exception that a suite holds: its object, class, data, dict, field -/
structure XH where
  i : Nat
  a : Addr
  c : Nat
  vs : List D
  d : Option Addr
  fs : List Str
structure Hx where
  h : Hp
  x : Option XH
def XFld (K : PySem.W.Frag) (ρ : List Addr) (F H : Hp) (q : XH) : Prop := match q.vs, q.d, q.fs with
  | [], none, [] => True
  | [v], some dd, [f] => dd ∉ ρ ∧ ∃ u, H dd = some (.xd [(f, u)]) ∧ RepD K ρ F u v
  | _, _, _ => False
/-- the names' values: data, or a list that the def alone holds -/
structure LocAt (K : PySem.W.Frag) (H0 : Hx) (ρ : List Addr) (F H : Hp) (σ : L2.St) (δ : Lcs) (ω : Nat → Addr) : Prop where
  len : δ.length = σ.length
  dat : ∀ (i : Nat) (d : D), δ[i]? = some (some (.v d)) → ∃ v, σ[i]? = some (some v) ∧ RepD K ρ F v d
  own : ∀ (i : Nat) (xs : List D), δ[i]? = some (some (.l xs)) → σ[i]? = some (some (.ref (ω i))) ∧ (∃ vs, H (ω i) = some (.lst vs) ∧ RepL K ρ F vs xs) ∧ F (ω i) = none ∧ ω i ∉ ρ ∧ H0.h (ω i) = none
  exo : ∀ (i c : Nat) (vs : List D), δ[i]? = some (some (.x c vs)) → ∃ q, H0.x = some q ∧ q.i = i ∧ q.c = c ∧ q.vs = vs ∧ σ[i]? = some (some (.ref q.a)) ∧ XFld K ρ F H q
  one : ∀ (i j : Nat) (xs ys : List D), δ[i]? = some (some (.l xs)) → δ[j]? = some (some (.l ys)) → ω i = ω j → i = j
def LocOk (K : PySem.W.Frag) (H0 : Hx) (ρ : List Addr) (F H : Hp) (σ : L2.St) (δ : Lcs) : Prop := ∃ ω, LocAt K H0 ρ F H σ δ ω

section
variable {K : PySem.W.Frag} {cm : List Addr} {nm : List Str} {H0 : Hx} {ρ ρ' ρ1 : List Addr} {F F' F1 H H' H1 : Hp} {s s' s1 : Sto} {σ : L2.St} {δ : Lcs}

theorem XFld.ext {q : XH} (h : XFld K ρ F H q) (e : Ext ρ F H s ρ' F' H' s') : XFld K ρ' F' H' q := by
  obtain ⟨i, a, c, vs, d, fs⟩ := q
  unfold XFld at h ⊢
  split at h
  · exact h
  · obtain ⟨h1, u, h2, h3⟩ := h
    exact ⟨fun q => (e.newC _ q).elim h1 fun z => (by rw [h2] at z; cases z), u, e.keep _ _ h2 h1, h3.mono e.pre e.froz⟩
  · exact h.elim
theorem XFld.upd {q : XH} {p : Addr} {vs ws : List V} (h : XFld K ρ F H q) (hp : H p = some (.lst vs)) : XFld K ρ F (L2.upd H p (.lst ws)) q := by
  obtain ⟨i, a, c, us, d, fs⟩ := q
  unfold XFld at h ⊢
  split at h
  · exact h
  · obtain ⟨h1, u, h2, h3⟩ := h
    exact ⟨h1, u, by rw [upd_ne (fun z => by rw [z, hp] at h2; cases h2)]; exact h2, h3⟩
  · exact h.elim
theorem XFld.frz {q : XH} (h : XFld K ρ F H q) (sm : Same F F') : XFld K ρ F' H q := by
  obtain ⟨i, a, c, us, d, fs⟩ := q
  unfold XFld at h ⊢
  split at h
  · exact h
  · obtain ⟨h1, u, h2, h3⟩ := h
    exact ⟨h1, u, h2, h3.mono (List.prefix_refl _) sm⟩
  · exact h.elim
theorem LocOk.ext (l : LocOk K H0 ρ F H σ δ) (e : Ext ρ F H s ρ' F' H' s') : LocOk K H0 ρ' F' H' σ δ := by
  obtain ⟨ω, l⟩ := l
  refine ⟨ω, l.len, fun i d h => ?_, fun i xs h => ?_, fun i c vs h => let ⟨q, a1, a0, a2, a3, a4, a5⟩ := l.exo i c vs h; ⟨q, a1, a0, a2, a3, a4, a5.ext e⟩, l.one⟩
  · obtain ⟨v, h1, h2⟩ := l.dat i d h
    exact ⟨v, h1, h2.mono e.pre e.froz⟩
  · obtain ⟨h1, ⟨vs, h2, h3⟩, h4, h5, h6⟩ := l.own i xs h
    refine ⟨h1, ⟨vs, e.keep _ _ h2 h5, h3.mono e.pre e.froz⟩, ?_, fun q => ?_, h6⟩
    · cases q : F' (ω i) with
      | none => rfl
      | some u =>
        rcases e.newF _ _ q with z | z
        · rw [h4] at z; cases z
        · rw [h2] at z; cases z
    · rcases e.newC _ q with z | z
      · exact h5 z
      · rw [h2] at z; cases z

/-- a slot is given data -/
theorem LocOk.put (l : LocOk K H0 ρ F H σ δ) (i : Nat) {v : V} {d : D} (r : RepD K ρ F v d) : LocOk K H0 ρ F H (σ.set i (some v)) (δ.set i (some (.v d))) := by
  obtain ⟨ω, l⟩ := l
  refine ⟨ω, by simpa using l.len, fun j e h => ?_, fun j xs h => ?_, fun j c vs h => ?_, fun j j' xs ys h h' => ?_⟩
  · by_cases q : i = j
    · subst q
      by_cases hi : i < δ.length
      · rw [List.getElem?_set_self hi] at h
        cases h
        exact ⟨v, by rw [List.getElem?_set_self (by rw [← l.len]; exact hi)], r⟩
      · rw [List.getElem?_eq_none (by simpa using hi)] at h
        cases h
    · rw [List.getElem?_set_ne q] at h ⊢
      exact l.dat j e h
  · by_cases q : i = j
    · subst q
      by_cases hi : i < δ.length
      · rw [List.getElem?_set_self hi] at h
        cases h
      · rw [List.getElem?_eq_none (by simpa using hi)] at h
        cases h
    · rw [List.getElem?_set_ne q] at h ⊢
      exact l.own j xs h
  · by_cases q : i = j
    · subst q
      by_cases hi : i < δ.length
      · rw [List.getElem?_set_self hi] at h
        cases h
      · rw [List.getElem?_eq_none (by simpa using hi)] at h
        cases h
    · rw [List.getElem?_set_ne q] at h ⊢
      exact l.exo j c vs h
  · have nq : ∀ (k : Nat) (zs : List D), (δ.set i (some (.v d)))[k]? = some (some (.l zs)) → δ[k]? = some (some (.l zs)) := fun k zs h => by
      by_cases q : i = k
      · subst q
        by_cases hi : i < δ.length
        · rw [List.getElem?_set_self hi] at h
          cases h
        · rw [List.getElem?_eq_none (by simpa using hi)] at h
          cases h
      · rw [List.getElem?_set_ne q] at h
        exact h
    exact l.one j j' xs ys (nq _ _ h) (nq _ _ h')
/-- a slot is forgotten -/
theorem LocOk.drop (l : LocOk K H0 ρ F H σ δ) (i : Nat) : LocOk K H0 ρ F H (σ.set i none) (δ.set i none) := by
  obtain ⟨ω, l⟩ := l
  have nq : ∀ (k : Nat) (o : O), (δ.set i none)[k]? = some (some o) → i ≠ k ∧ δ[k]? = some (some o) := fun k o h => by
    by_cases q : i = k
    · subst q
      by_cases hi : i < δ.length
      · rw [List.getElem?_set_self hi] at h
        cases h
      · rw [List.getElem?_eq_none (by simpa using hi)] at h
        cases h
    · rw [List.getElem?_set_ne q] at h
      exact ⟨q, h⟩
  refine ⟨ω, by simpa using l.len, fun j e h => ?_, fun j xs h => ?_, fun j c vs h => by
    obtain ⟨q, h⟩ := nq _ _ h
    rw [List.getElem?_set_ne q]
    exact l.exo j c vs h, fun j j' xs ys h h' => l.one j j' xs ys (nq _ _ h).2 (nq _ _ h').2⟩
  · obtain ⟨q, h⟩ := nq _ _ h
    rw [List.getElem?_set_ne q]
    exact l.dat j e h
  · obtain ⟨q, h⟩ := nq _ _ h
    rw [List.getElem?_set_ne q]
    exact l.own j xs h
/-- a slot is given the exception that a suite holds -/
theorem LocOk.held (l : LocOk K H0 ρ F H σ δ) (i : Nat) {q : XH} (e : H0.x = some q) (ei : q.i = i) (r : XFld K ρ F H q) : LocOk K H0 ρ F H (σ.set i (some (.ref q.a))) (δ.set i (some (.x q.c q.vs))) := by
  obtain ⟨ω, l⟩ := l
  have self : ∀ (o : O), (δ.set i (some (.x q.c q.vs)))[i]? = some (some o) → o = .x q.c q.vs ∧ i < δ.length := fun o h => by
    by_cases hi : i < δ.length
    · rw [List.getElem?_set_self hi] at h; cases h; exact ⟨rfl, hi⟩
    · rw [List.getElem?_eq_none (by simpa using hi)] at h; cases h
  have other : ∀ (k : Nat) (o : O), i ≠ k → (δ.set i (some (.x q.c q.vs)))[k]? = some (some o) → δ[k]? = some (some o) := fun k o z h => by rw [List.getElem?_set_ne z] at h; exact h
  refine ⟨ω, by simpa using l.len, fun j d h => ?_, fun j xs h => ?_, fun j c vs h => ?_, fun j j' xs ys h h' => ?_⟩
  · by_cases z : i = j
    · subst z; cases (self _ h).1
    · rw [List.getElem?_set_ne z]; exact l.dat j d (other j _ z h)
  · by_cases z : i = j
    · subst z; cases (self _ h).1
    · rw [List.getElem?_set_ne z]; exact l.own j xs (other j _ z h)
  · by_cases z : i = j
    · subst z
      obtain ⟨h1, hi⟩ := self _ h
      cases h1
      exact ⟨q, e, ei, rfl, rfl, by rw [List.getElem?_set_self (by rw [← l.len]; exact hi)], r⟩
    · rw [List.getElem?_set_ne z]; exact l.exo j c vs (other j _ z h)
  · by_cases z : i = j
    · subst z; cases (self _ h).1
    · by_cases z' : i = j'
      · subst z'; cases (self _ h').1
      · exact l.one j j' xs ys (other j _ z h) (other j' _ z' h')
/-- none holds an exception: another suite's may come -/
theorem LocOk.rehx {h : Hp} {o : Option XH} (l : LocOk K ⟨h, none⟩ ρ F H σ δ) : LocOk K ⟨h, o⟩ ρ F H σ δ := by
  obtain ⟨ω, l⟩ := l
  exact ⟨ω, l.len, l.dat, l.own, fun i c vs h => (let ⟨q, a, _⟩ := l.exo i c vs h; nomatch a), l.one⟩
/-- the suite's slot is forgotten: none holds an exception -/
theorem LocOk.unhx {h : Hp} {q : XH} (l : LocOk K ⟨h, some q⟩ ρ F H σ δ) : LocOk K ⟨h, none⟩ ρ F H (σ.set q.i none) (δ.set q.i none) := by
  obtain ⟨ω, l'⟩ := l.drop q.i
  refine ⟨ω, l'.len, l'.dat, l'.own, fun i c vs h => ?_, l'.one⟩
  obtain ⟨q', a, a0, _⟩ := l'.exo i c vs h
  cases a
  exfalso
  subst a0
  by_cases hi : q.i < δ.length
  · rw [List.getElem?_set_self hi] at h; cases h
  · rw [List.getElem?_eq_none (by simpa using hi)] at h; cases h
theorem LocOk.wipe (l : LocOk K H0 ρ F H σ δ) : ∀ own : List Nat, LocOk K H0 ρ F H (wipe σ own) (wipeL δ own)
  | [] => l
  | i :: own => (LocOk.wipe l own).drop i

/-! ### results -/
abbrev Rel (α β : Type) := Hp → List Addr → Hp → Hp → β → α → Prop
def RD (K : PySem.W.Frag) : Rel D V := fun _ ρ F _ v d => RepD K ρ F v d
def RL (K : PySem.W.Frag) : Rel (List D) (List V) := fun _ ρ F _ v d => RepL K ρ F v d
def RB : Rel Bool Bool := fun _ _ _ _ b c => b = c
def RP : Rel (Option Int) (Option Int) := fun _ _ _ _ b c => b = c
def RO (K : PySem.W.Frag) : Rel O V := fun Hs ρ F H v o => match o with
  | .v d => RepD K ρ F v d
  | .l xs => ∃ p vs, v = .ref p ∧ H p = some (.lst vs) ∧ RepL K ρ F vs xs ∧ F p = none ∧ p ∉ ρ ∧ Hs p = none
  | .x _ _ => False
def Anti {α β : Type} (R : Rel α β) : Prop := ∀ Hs Hs' ρ F H b a, (∀ p, Hs p = none → Hs' p = none) → R Hs ρ F H b a → R Hs' ρ F H b a
theorem anti_RD : Anti (RD K) := fun _ _ _ _ _ _ _ _ h => h
theorem anti_RL : Anti (RL K) := fun _ _ _ _ _ _ _ _ h => h
theorem anti_RB : Anti RB := fun _ _ _ _ _ _ _ _ h => h
theorem anti_RP : Anti RP := fun _ _ _ _ _ _ _ _ h => h
theorem anti_RO : Anti (RO K) := fun Hs Hs' ρ F H b a k h => by
  cases a with
  | v d => exact h
  | l xs =>
    obtain ⟨p, vs, h1, h2, h3, h4, h5, h6⟩ := h
    exact ⟨p, vs, h1, h2, h3, h4, h5, k p h6⟩
  | x c vs => exact h

def Post (K : PySem.W.Frag) (cm : List Addr) (nm : List Str) {α β : Type} (R : Rel α β) (r : Re α) (ρ : List Addr) (F H : Hp) (s : Sto) (Q : β → Hp → Prop) : Prop := match r with
  | .ok a s' => ∀ b ρ' F' H', Ext ρ F H s ρ' F' H' s' → StOk K cm nm ρ' F' H' s' → R H ρ' F' H' b a → Q b H'
  | _ => False

theorem Ext.back (e : Ext ρ F H s ρ1 F1 H1 s1) : ∀ p, H1 p = none → H p = none := fun p h => by
  cases q : H p with
  | none => rfl
  | some u =>
    obtain ⟨o, z⟩ := e.there p u q
    rw [h] at z; cases z

variable {α β γ ζ : Type} {R : Rel α β} {R' : Rel γ ζ}
theorem Post.later {r : Re α} {Q : β → Hp → Prop} (an : Anti R) (e : Ext ρ F H s ρ1 F1 H1 s1) (h : Post K cm nm R r ρ F H s Q) : Post K cm nm R r ρ1 F1 H1 s1 Q := by
  cases r with
  | no => exact h
  | ex x s => exact h
  | ok a s2 => exact fun b ρ' F' H' e' st rr => h b ρ' F' H' (e.trans e') st (an _ _ _ _ _ _ _ e.back rr)
theorem Post.bind {r : Re γ} {f : γ → Sto → Re α} {Q : β → Hp → Prop} {Q1 : ζ → Hp → Prop} (an : Anti R) (h : Post K cm nm R (r.bind f) ρ F H s Q)
    (k : ∀ c s1 b ρ1 F1 H1, Ext ρ F H s ρ1 F1 H1 s1 → StOk K cm nm ρ1 F1 H1 s1 → R' H ρ1 F1 H1 b c → Post K cm nm R (f c s1) ρ1 F1 H1 s1 Q → Q1 b H1) : Post K cm nm R' r ρ F H s Q1 := by
  cases r with
  | no => exact h
  | ex x s => exact h
  | ok c s1 => exact fun b ρ1 F1 H1 e st rr => k c s1 b ρ1 F1 H1 e st rr (Post.later (r := f c s1) an e h)
theorem Post.now {a : α} {b : β} {Q : β → Hp → Prop} (h : Post K cm nm R (.ok a s) ρ F H s Q) (st : StOk K cm nm ρ F H s) (r : R H ρ F H b a) : Q b H := h b ρ F H (Ext.refl _ _ _ _) st r
theorem Post.lift {o : Option α} {Q : β → Hp → Prop} (h : Post K cm nm R (lift o s) ρ F H s Q) : ∃ a, o = some a ∧ Post K cm nm R (.ok a s) ρ F H s Q := by
  cases o with
  | none => exact h.elim
  | some a => exact ⟨a, rfl, h⟩

theorem Post.lift_bind {o : Option γ} {f : γ → Sto → Re α} {Q : β → Hp → Prop} (h : Post K cm nm R ((Mn.lift o s1).bind f) ρ F H s Q) : ∃ c, o = some c ∧ Post K cm nm R (f c s1) ρ F H s Q := by
  cases o with
  | none => exact h.elim
  | some c => exact ⟨c, rfl, h⟩

/-! ### the heap grows -/
theorem StOk.alloc {p : Addr} {o : HO} (st : StOk K cm nm ρ F H s) (hp : H p = none) : StOk K cm nm ρ F (upd H p o) s where
  sub := fun b u h => by
    have := st.sub b u h
    rw [upd_ne (ne_of_none this hp)]; exact this
  len := st.len
  cell := fun n a c h1 h2 => by
    obtain ⟨u, h3, h4⟩ := st.cell n a c h1 h2
    exact ⟨u, by rw [upd_ne (ne_of_none h3 hp)]; exact h3, h4⟩
  off := st.off
  nd := st.nd
theorem Ext.alloc {p : Addr} {o : HO} (hp : H p = none) : Ext ρ F H s ρ F (upd H p o) s where
  pre := List.prefix_refl ρ
  froz := Same.refl F
  wle := Nat.le_refl _
  keep := fun b u h _ => by rw [upd_ne (ne_of_none h hp)]; exact h
  still := fun _ b u h => by rw [upd_ne (ne_of_none h hp)]; exact h
  there := fun b u h => ⟨u, by rw [upd_ne (ne_of_none h hp)]; exact h⟩
  newF := fun b u h => .inl h
  newC := fun b h => .inl h
theorem StOk.noF (st : StOk K cm nm ρ F H s) {p : Addr} (hp : H p = none) : F p = none := by
  cases q : F p with
  | none => rfl
  | some u => rw [st.sub p u q] at hp; cases hp
theorem StOk.noC (st : StOk K cm nm ρ F H s) {p : Addr} (hp : H p = none) : p ∉ ρ := fun q => by
  obtain ⟨n, hn⟩ := List.mem_iff_getElem?.mp q
  have hl : n < s.c.length := by rw [← st.len]; exact (List.getElem?_eq_some_iff.mp hn).1
  obtain ⟨o, h1, _⟩ := st.cell n p s.c[n] hn (by simp [hl])
  rw [hp] at h1; cases h1
/-- an object is frozen -/
theorem StOk.freeze {p : Addr} {o : HO} (st : StOk K cm nm ρ F H s) (hp : H p = some o) (hF : F p = none) (hc : p ∉ ρ) : StOk K cm nm ρ (upd F p o) H s := by
  have sm : Same F (upd F p o) := fun b u h => by rw [upd_ne (ne_of_none h hF)]; exact h
  refine ⟨fun b u h => ?_, st.len, fun n a c h1 h2 => ?_, fun a h => ?_, st.nd⟩
  · by_cases q : b = p
    · subst q; rw [upd_same] at h; cases h; exact hp
    · rw [upd_ne q] at h; exact st.sub b u h
  · obtain ⟨u, h3, h4⟩ := st.cell n a c h1 h2
    exact ⟨u, h3, h4.mono (List.prefix_refl _) sm⟩
  · have q : a ≠ p := fun e => hc (e ▸ h)
    rw [upd_ne q]; exact st.off a h
theorem Ext.freeze {p : Addr} {o : HO} (e : Ext ρ F H s ρ1 F1 H1 s1) (hF : F1 p = none) (h0 : H p = none) : Ext ρ F H s ρ1 (upd F1 p o) H1 s1 where
  pre := e.pre
  froz := fun b u h => by
    have := e.froz b u h
    rw [upd_ne (ne_of_none this hF)]; exact this
  wle := e.wle
  keep := e.keep
  still := e.still
  there := e.there
  newF := fun b u h => by
    by_cases q : b = p
    · subst q; exact .inr h0
    · rw [upd_ne q] at h; exact e.newF b u h
  newC := e.newC
/-- a new object, frozen at once: the result -/
theorem Post.fresh {p : Addr} {o : HO} {a : α} {b : β} {Q : β → Hp → Prop} (h : Post K cm nm R (.ok a s) ρ F H s Q) (st : StOk K cm nm ρ F H s) (hp : H p = none) (r : R H ρ (upd F p o) (upd H p o) b a) : Q b (upd H p o) := by
  have hF := st.noF hp
  refine h b ρ (upd F p o) (upd H p o) (Ext.freeze (Ext.alloc hp) hF hp) (StOk.freeze (st.alloc hp) upd_same hF (st.noC hp)) r
/-- a new list, the asker's own -/
theorem Post.owned {p : Addr} {vs : List V} {ds : List D} {Q : VK} (h : Post K cm nm (RO K) (.ok (.l ds) s) ρ F H s Q) (st : StOk K cm nm ρ F H s) (hp : H p = none) (r : RepL K ρ F vs ds) : Q (.ref p) (upd H p (.lst vs)) :=
  h (.ref p) ρ F _ (Ext.alloc hp) (st.alloc hp) ⟨p, vs, rfl, upd_same, r, st.noF hp, st.noC hp, hp⟩
end
end Mn
set_option Elab.async false
set_option linter.all false
set_option maxRecDepth 100000
set_option maxHeartbeats 4000000
/-! Operators, comparisons, truth, index, slices of the small language, by HandS's rules. -/
namespace Mn
open PySem L2 PyProof.Rows

theorem line_eq : line = sizeLine := by rw [sizeLine_eq]; rfl
theorem _root_.L2.PE.conseq {X : Cx} {e : Expr} {t t' : TE} (h : PE X e t) (k : ∀ σ H Q, t' σ H Q → t σ H Q) : PE X e t' := ⟨fun pins s σ H Q I q => h.run pins s σ H Q I (k σ H Q q)⟩
theorem _root_.L2.PT.conseq {X : Cx} {e : Expr} {t t' : TT} (h : PT X e t) (k : ∀ σ H Q, t' σ H Q → t σ H Q) : PT X e t' := ⟨fun pins s σ H Q I q => h.run pins s σ H Q I (k σ H Q q)⟩
theorem _root_.L2.PA.conseq {X : Cx} {e : List Expr} {t t' : TA} (h : PA X e t) (k : ∀ σ H Q, t' σ H Q → t σ H Q) : PA X e t' := ⟨fun pos pins s σ H Q I q => h.run pos pins s σ H Q I (k σ H Q q)⟩
theorem _root_.L2.PS.conseq {X : Cx} {e : Stmt} {t t' : TS} (h : PS X e t) (k : ∀ D σ H, t' D σ H → t D σ H) : PS X e t' := ⟨fun pins s σ H D I q => h.run pins s σ H D I (k D σ H q)⟩
theorem _root_.L2.PSs.conseq {X : Cx} {e : List Stmt} {t t' : TS} (h : PSs X e t) (k : ∀ D σ H, t' D σ H → t D σ H) : PSs X e t' := ⟨fun pins s σ H D I q => h.run pins s σ H D I (k D σ H q)⟩

theorem opR_or {X : Cx} {f : Value → Value → Sem Value} {r r' : R2} (h : OpR X f r) (h' : OpR X f r') : OpR X f (fun x y H Q => r x y H Q ∨ r' x y H Q) := by
  intro pins s σ H x y v u Q I rx ry q
  rcases q with q | q
  · exact h pins s σ H x y v u Q I rx ry q
  · exact h' pins s σ H x y v u Q I rx ry q

def opB : MB → Operator
  | .add => .Add | .sub => .Sub | .mul => .Mult | .fdiv => .FloorDiv | .mod => .Mod | .pow => .Pow

theorem str_app (x y : List Nat) : str x ++ str y = str (x ++ y) := by
  show Str.mk _ = Str.mk _
  simp [str]

section
variable {X : Cx}
theorem op_powB : OpR X (binaryOp .Pow) (rI (fun i j => 0 ≤ j ∧ ((i.natAbs.log2 + 1 : Nat) : Int) * j ≤ 1000000) fun i j => .int (i ^ j.toNat)) := opI fun i j _ _ _ _ _ hc q => by
  refine pow_int hc.1 ?_ q
  have h : Builtin.Int.intBits i ≤ i.natAbs.log2 + 1 := by
    unfold Builtin.Int.intBits
    split <;> omega
  have h2 : (Builtin.Int.intBits i : Int) * j ≤ ((i.natAbs.log2 + 1 : Nat) : Int) * j := Int.mul_le_mul_of_nonneg_right (by omega) hc.1
  have h3 := hc.2
  have h4 : (1000000 : Int) ≤ 2 ^ 27 := by decide
  omega
def CRepS (x : Str) (j : Int) : Prop := 0 ≤ j ∧ j < 1000000 ∧ x.length * j.toNat ≤ line
theorem foldl_app (l : List (Array Nat)) : ∀ a : Array Nat, (l.foldl (· ++ ·) a).toList = a.toList ++ (l.map Array.toList).flatten := by
  induction l with
  | nil => intro a; simp
  | cons x xs ih => intro a; rw [List.foldl_cons, ih]; simp
theorem rep_str (z : List Nat) (n : Nat) : (⟨(List.replicate n (str z).cps).foldl (· ++ ·) #[]⟩ : Str) = str (List.replicate n z).flatten := by
  unfold str
  congr 1
  apply Array.toList_inj.mp
  rw [foldl_app]
  simp [List.map_replicate]
theorem op_repS : OpR X (binaryOp .Mult) (fun x y H Q => ∃ z j, x = .str (str z) ∧ y = .int j ∧ (0 ≤ j ∧ j < 1000000 ∧ z.length * j.toNat ≤ line) ∧ Q (.str (str (List.replicate j.toNat z).flatten)) H) := by
  intro pins s σ H x y v u Q I rx ry h
  obtain ⟨z, j, rfl, rfl, ⟨h0, h1, h2⟩, q⟩ := h
  obtain ⟨t, rfl⟩ := rx
  obtain ⟨t', rfl⟩ := ry
  have hl : (str z).length = z.length := str_len z
  have eL : line = 16777216 := rfl
  refine P.mul_str ?_ (fun a b => ?_) (fun a b => ?_) ?_
  · rw [decide_eq_false (by omega), decide_eq_false (by omega)]; rfl
  · rw [hl]
    intro q'
    have hz : z.length * 1 ≤ z.length * j.toNat := Nat.mul_le_mul_left _ (by omega)
    have : ((z.length : Int)) ≤ 16777216 := by omega
    have h3 : (16777216 : Int) ≤ (2 ^ 63 - 1) / j := by
      rw [Int.le_ediv_iff_mul_le (by omega)]
      omega
    omega
  · rw [hl]
    unfold Builtin.Str.tooLong
    have : ¬ sizeLine < z.length * j.toNat := by rw [← line_eq]; omega
    simpa using this
  · by_cases c1 : j < 1
    · rw [if_pos c1]
      have e : j.toNat = 0 := by omega
      rw [e] at q
      exact ⟨by decide, ⟨.str (str []), H, I.tok _, ⟨_, rfl⟩, q⟩⟩
    · rw [if_neg c1]
      by_cases c2 : (j == 1 || (str z).length == 0) = true
      · rw [if_pos c2]
        refine ⟨.str (str z), H, I, ⟨_, rfl⟩, ?_⟩
        have e : (List.replicate j.toNat z).flatten = z := by
          rw [hl] at c2
          rcases Bool.or_eq_true _ _ ▸ c2 with c | c
          · have : j = 1 := by simpa using c
            subst this
            simp
          · have : z = [] := by
              have : z.length = 0 := by simpa using c
              exact List.eq_nil_of_length_eq_zero this
            subst this
            have : ∀ n, (List.replicate n ([] : List Nat)).flatten = [] := by
              intro n
              induction n with
              | zero => rfl
              | succ n ih => rw [List.replicate_succ, List.flatten_cons, ih]; rfl
            exact this _
        rw [e] at q
        exact q
      · rw [if_neg c2]
        refine ⟨?_, ⟨.str _, H, I.tok _, ⟨_, rfl⟩, ?_⟩⟩
        · rw [rep_str, str_len]
          have : ((List.replicate j.toNat z).flatten).length = z.length * j.toNat := by simp [Nat.mul_comm]
          rw [this, ← line_eq]; exact h2
        · rw [rep_str]; exact q

theorem op_of (o : MB) : ∃ r, OpR X (binaryOp (opB o)) r ∧ ∀ (K : PySem.W.Frag) (ρ : List Addr) (F : Hp) (d e z : D) (x y : V) (H : Hp) (Q : VK), binD o d e = some z → RepD K ρ F x d → RepD K ρ F y e →
    (∀ v, (∀ K ρ F, RepD K ρ F v z) → Q v H) → r x y H Q := by
  cases o with
  | add =>
    refine ⟨_, opR_or op_add op_add_str, fun K ρ F d e z x y H Q h rx ry q => ?_⟩
    cases d <;> cases e <;> simp only [binD] at h <;> try cases h
    · cases rx; cases ry
      exact .inl ⟨_, _, rfl, rfl, q _ fun _ _ _ => .int _⟩
    · rename_i a b
      cases rx; cases ry
      split at h
      · rename_i hl
        cases h
        exact .inr ⟨_, _, rfl, rfl, by rw [str_len, str_len, ← line_eq]; exact hl, q _ fun _ _ _ => by rw [str_app]; exact .str _⟩
      · cases h
  | sub =>
    refine ⟨_, op_sub, fun K ρ F d e z x y H Q h rx ry q => ?_⟩
    cases d <;> cases e <;> simp only [binD] at h <;> try cases h
    cases rx; cases ry
    exact ⟨_, _, rfl, rfl, q _ fun _ _ _ => .int _⟩
  | mul =>
    refine ⟨_, opR_or op_mulW op_repS, fun K ρ F d e z x y H Q h rx ry q => ?_⟩
    cases d <;> cases e <;> simp only [binD] at h <;> try cases h
    · cases rx; cases ry
      split at h
      · rename_i hl
        cases h
        exact .inl ⟨_, _, rfl, rfl, hl, q _ fun _ _ _ => .int _⟩
      · cases h
    · cases rx; cases ry
      split at h
      · rename_i hl
        cases h
        exact .inr ⟨_, _, rfl, rfl, hl, q _ fun _ _ _ => .str _⟩
      · cases h
  | fdiv =>
    refine ⟨_, op_fdivW, fun K ρ F d e z x y H Q h rx ry q => ?_⟩
    cases d <;> cases e <;> simp only [binD] at h <;> try cases h
    cases rx; cases ry
    split at h
    · rename_i hl
      cases h
      exact ⟨_, _, rfl, rfl, hl, q _ fun _ _ _ => .int _⟩
    · cases h
  | mod =>
    refine ⟨_, op_mod, fun K ρ F d e z x y H Q h rx ry q => ?_⟩
    cases d <;> cases e <;> simp only [binD] at h <;> try cases h
    cases rx; cases ry
    split at h
    · rename_i hl
      cases h
      exact ⟨_, _, rfl, rfl, hl, q _ fun _ _ _ => .int _⟩
    · cases h
  | pow =>
    refine ⟨_, op_powB, fun K ρ F d e z x y H Q h rx ry q => ?_⟩
    cases d <;> cases e <;> simp only [binD] at h <;> try cases h
    cases rx; cases ry
    split at h
    · rename_i hl
      cases h
      exact ⟨_, _, rfl, rfl, hl, q _ fun _ _ _ => .int _⟩
    · cases h
end

/-! ### == -/
mutual
theorem eqv_py : ∀ d e : D, d.plain = true → e.plain = true → PyData.eqv d.py e.py = D.eqv d e
  | .non, e, _, he => by cases e <;> first | rfl | cases he
  | .bl a, e, _, he => by
    cases e <;> first | rfl | cases he | (simp only [D.py, PyData.eqv, D.eqv]; rw [Bool.eq_iff_iff]; simp)
  | .int a, e, _, he => by
    cases e <;> first | rfl | cases he | (simp only [D.py, PyData.eqv, D.eqv]; rw [Bool.eq_iff_iff]; simp)
  | .str a, e, _, he => by
    cases e <;> first | rfl | cases he | skip
    rename_i b
    simp only [D.py, PyData.eqv, D.eqv]
    rw [Bool.eq_iff_iff]
    simp only [beq_iff_eq, decide_eq_true_eq]
    exact ⟨fun h => by have := congrArg (fun z : Str => z.cps.toList) h; simpa [str_list] using this, fun h => by rw [h]⟩
  | .tup xs, e, hd, he => by
    cases e <;> first | rfl | cases he | skip
    rename_i ys
    simp only [D.py, PyData.eqv, D.eqv]
    exact eqvL_py xs ys (by simpa [D.plain] using hd) (by simpa [D.plain] using he)
  | .lst xs, e, hd, he => by
    cases e <;> first | rfl | cases he | skip
    rename_i ys
    simp only [D.py, PyData.eqv, D.eqv]
    exact eqvL_py xs ys (by simpa [D.plain] using hd) (by simpa [D.plain] using he)
  | .dct _, _, h, _ => by cases h
  | .ref _, _, h, _ => by cases h
theorem eqvL_py : ∀ xs ys : List D, D.plainL xs = true → D.plainL ys = true → PyData.eqvAll (D.pyL xs) (D.pyL ys) = D.eqvL xs ys
  | [], [], _, _ => rfl
  | [], _ :: _, _, _ => rfl
  | _ :: _, [], _, _ => rfl
  | x :: xs, y :: ys, hx, hy => by
    have h1 : x.plain = true ∧ D.plainL xs = true := by simpa [D.plainL] using hx
    have h2 : y.plain = true ∧ D.plainL ys = true := by simpa [D.plainL] using hy
    simp only [D.pyL, PyData.eqvAll, D.eqvL]
    rw [eqv_py x y h1.1 h2.1, eqvL_py xs ys h1.2 h2.2]
end
mutual
theorem plain_py : ∀ d : D, d.plain = true → d.py.plain = true
  | .non, _ => rfl
  | .bl _, _ => rfl
  | .int _, _ => rfl
  | .str _, _ => rfl
  | .tup xs, h => by simp only [D.py, PyData.plain]; exact plainL_py xs (by simpa [D.plain] using h)
  | .lst xs, h => by simp only [D.py, PyData.plain]; exact plainL_py xs (by simpa [D.plain] using h)
  | .dct _, h => by cases h
  | .ref _, h => by cases h
theorem plainL_py : ∀ xs : List D, D.plainL xs = true → PyData.plainAll (D.pyL xs) = true
  | [], _ => rfl
  | x :: xs, h => by
    have h1 : x.plain = true ∧ D.plainL xs = true := by simpa [D.plainL] using h
    simp only [D.pyL, PyData.plainAll, plain_py x h1.1, plainL_py xs h1.2, Bool.and_self]
end
mutual
theorem dep_py : ∀ d : D, d.py.depth = d.dep
  | .non => rfl
  | .bl _ => rfl
  | .int _ => rfl
  | .str _ => rfl
  | .tup xs => by simp only [D.py, PyData.depth, D.dep]; rw [depL_py xs]
  | .lst xs => by simp only [D.py, PyData.depth, D.dep]; rw [depL_py xs]
  | .dct _ => rfl
  | .ref _ => rfl
theorem depL_py : ∀ xs : List D, PyData.depthAll (D.pyL xs) = D.depL xs
  | [] => rfl
  | x :: xs => by simp only [D.pyL, PyData.depthAll, D.depL]; rw [dep_py x, depL_py xs]
end
mutual
theorem RepD.dp {K : PySem.W.Frag} {ρ : List Addr} {F H : Hp} (sm : Same F H) : ∀ {v : V} {d : D}, RepD K ρ F v d → d.plain = true → Dp K H v d.py
  | _, _, .non, _ => .non
  | _, _, .bl b, _ => .bl b
  | _, _, .int i, _ => .int i
  | _, _, .str z, _ => .str _
  | _, _, .tup h l, p => .tup (Same.sqT sm h) (RepL.dp sm l (by simpa [D.plain] using p))
  | _, _, .lst h l, p => .lst (Same.seq sm h) (RepL.dp sm l (by simpa [D.plain] using p))
  | _, _, .ref _, p => by cases p
theorem RepL.dp {K : PySem.W.Frag} {ρ : List Addr} {F H : Hp} (sm : Same F H) : ∀ {vs : List V} {ds : List D}, RepL K ρ F vs ds → D.plainL ds = true → DpAll K H vs (D.pyL ds)
  | _, _, .nil, _ => .nil
  | _, _, .cons h l, p => by
    have h1 := (Bool.and_eq_true _ _).mp (show (_ && _) = true from p)
    exact .cons (RepD.dp sm h h1.1) (RepL.dp sm l h1.2)
end

section
variable {K : PySem.W.Frag} {cm : List Addr} {nm : List Str} {ρ : List Addr} {F H : Hp} {s : Sto}
/-- a cell that is a list -/
theorem StOk.lst (st : StOk K cm nm ρ F H s) {n : Nat} {a : Addr} {xs : List D} (ha : ρ[n]? = some a) (hs : s.c[n]? = some (.L xs)) : ∃ vs, H a = some (.lst vs) ∧ RepL K ρ F vs xs := by
  obtain ⟨o, h1, h2⟩ := st.cell n a _ ha hs
  cases h2 with
  | L l => exact ⟨_, h1, l⟩
/-- what is a list or a tuple to the run is one in the heap -/
theorem seq_of (st : StOk K cm nm ρ F H s) {v : V} {d : D} {xs : List D} (r : RepD K ρ F v d) (h : seqD s d = some xs) : ∃ a vs, v = .ref a ∧ (SqL K H a vs ∨ SqT K H a vs) ∧ RepL K ρ F vs xs := by
  cases r with
  | tup hq l => cases h; exact ⟨_, _, rfl, .inr (Same.sqT st.sub hq), l⟩
  | lst hq l => cases h; exact ⟨_, _, rfl, .inl (Same.seq st.sub hq), l⟩
  | @ref n a e =>
    simp only [seqD] at h
    split at h
    · rename_i ys hy
      cases h
      obtain ⟨vs, h1, h2⟩ := st.lst e hy
      exact ⟨a, vs, rfl, .inl (SqL.of h1), h2⟩
    · cases h
  | non => cases h
  | bl => cases h
  | int => cases h
  | str => cases h
  | dct => cases h
theorem list_of (st : StOk K cm nm ρ F H s) {v : V} {d : D} {xs : List D} (r : RepD K ρ F v d) (h : deref s d = .lst xs) : ∃ a vs, v = .ref a ∧ SqL K H a vs ∧ RepL K ρ F vs xs := by
  cases r with
  | lst hq l => cases h; exact ⟨_, _, rfl, Same.seq st.sub hq, l⟩
  | @ref n a e =>
    simp only [deref] at h
    split at h
    · rename_i ys hy
      cases h
      obtain ⟨vs, h1, h2⟩ := st.lst e hy
      exact ⟨a, vs, rfl, SqL.of h1, h2⟩
    · cases h
  | tup hq l => cases h
  | non => cases h
  | bl => cases h
  | int => cases h
  | str => cases h
  | dct => cases h
theorem deref_dp (st : StOk K cm nm ρ F H s) {v : V} {d : D} (r : RepD K ρ F v d) (h : (deref s d).plain = true) : Dp K H v (deref s d).py := by
  cases r with
  | @ref n a e =>
    simp only [deref] at h ⊢
    split
    · rename_i ys hy
      obtain ⟨vs, h1, h2⟩ := st.lst e hy
      rw [hy] at h
      exact .lst (SqL.of h1) (h2.dp st.sub (by simpa [D.plain] using h))
    · rename_i hn
      split at h
      · rename_i ys hy; exact absurd hy (hn ys)
      · cases h
  | tup hq l => exact RepD.dp st.sub (.tup hq l) h
  | lst hq l => exact RepD.dp st.sub (.lst hq l) h
  | dct => cases h
  | non => exact .non
  | bl => exact .bl _
  | int => exact .int _
  | str => exact .str _
end
section
variable {X : Cx}
def rEqP (K : PySem.W.Frag) : R2 := fun x y H Q => ∃ d e, Dp K H x d ∧ Dp K H y e ∧ d.plain = true ∧ e.plain = true ∧ min d.depth e.depth ≤ 60 ∧ Q (.bl (PyData.eqv d e)) H
def rNeP (K : PySem.W.Frag) : R2 := fun x y H Q => ∃ d e, Dp K H x d ∧ Dp K H y e ∧ d.plain = true ∧ e.plain = true ∧ min d.depth e.depth ≤ 60 ∧ Q (.bl (!PyData.eqv d e)) H
theorem op_eqP (hu : X.A.units + 64 < cLine) : OpR X (compareOp .Eq) (rEqP X.K) := by
  intro pins s σ H x y v u Q I rx ry h
  obtain ⟨d, e, hd, he, sd, se, hm, q⟩ := h
  obtain ⟨as, r1⟩ := Dp.reads I d x v hd rx
  obtain ⟨bs, r2⟩ := Dp.reads I e y u he ry
  exact SeqAt.eq_plain r1 r2 sd se (by omega) ⟨.bl _, H, I, rfl, q⟩
theorem op_neP (hu : X.A.units + 64 < cLine) : OpR X (compareOp .NotEq) (rNeP X.K) := by
  intro pins s σ H x y v u Q I rx ry h
  obtain ⟨d, e, hd, he, sd, se, hm, q⟩ := h
  obtain ⟨as, r1⟩ := Dp.reads I d x v hd rx
  obtain ⟨bs, r2⟩ := Dp.reads I e y u he ry
  exact SeqAt.ne_plain r1 r2 sd se (by omega) ⟨.bl _, H, I, rfl, q⟩
def rInP (K : PySem.W.Frag) (neg : Bool) : R2 := fun x y H Q => ∃ d es a vs, Dp K H x d ∧ y = .ref a ∧ (SqL K H a vs ∨ SqT K H a vs) ∧ DpAll K H vs es ∧ d.plain = true ∧ PyData.plainAll es = true ∧ min (PyData.depthAll es) d.depth ≤ 60 ∧
  Q (.bl (if neg then !(es.any fun z => PyData.eqv z d) else es.any fun z => PyData.eqv z d)) H
theorem op_inP (hu : X.A.units + 64 < cLine) : OpR X (compareOp .In) (rInP X.K false) := by
  intro pins s σ H x y v u Q I rx ry h
  obtain ⟨d, es, a, vs, hd, rfl, hq, he, sd, se, hm, q⟩ := h
  obtain ⟨as, r1⟩ := Dp.reads I d x v hd rx
  rcases hq with hq | hq
  · obtain ⟨bs, r2⟩ := Dp.reads I (.list es) (.ref a) u (.lst hq he) ry
    exact SeqAt.in_list_data r2 r1 se sd (by omega) ⟨.bl _, H, I, rfl, q⟩
  · obtain ⟨bs, r2⟩ := Dp.reads I (.tuple es) (.ref a) u (.tup hq he) ry
    exact SeqAt.in_tuple_data r2 r1 se sd (by omega) ⟨.bl _, H, I, rfl, q⟩
theorem op_notInP (hu : X.A.units + 64 < cLine) : OpR X (compareOp .NotIn) (rInP X.K true) := by
  intro pins s σ H x y v u Q I rx ry h
  obtain ⟨d, es, a, vs, hd, rfl, hq, he, sd, se, hm, q⟩ := h
  obtain ⟨as, r1⟩ := Dp.reads I d x v hd rx
  rcases hq with hq | hq
  · obtain ⟨bs, r2⟩ := Dp.reads I (.list es) (.ref a) u (.lst hq he) ry
    exact SeqAt.notIn_list_data r2 r1 se sd (by omega) ⟨.bl _, H, I, rfl, q⟩
  · obtain ⟨bs, r2⟩ := Dp.reads I (.tuple es) (.ref a) u (.tup hq he) ry
    exact SeqAt.notIn_tuple_data r2 r1 se sd (by omega) ⟨.bl _, H, I, rfl, q⟩

theorem any_py (d : D) (hd : d.plain = true) : ∀ ys : List D, D.plainL ys = true → ((D.pyL ys).any fun z => PyData.eqv z d.py) = ys.any fun z => D.eqv z d
  | [], _ => rfl
  | y :: ys, h => by
    have h1 : y.plain = true ∧ D.plainL ys = true := by simpa [D.plainL] using h
    simp only [D.pyL, List.any_cons]
    rw [eqv_py y d h1.1 hd, any_py d hd ys h1.2]

def opC : MC → CmpOp
  | .eq => .Eq | .ne => .NotEq | .lt => .Lt | .le => .LtE | .gt => .Gt | .ge => .GtE | .isin => .In | .notin => .NotIn | .isN => .Is | .notN => .IsNot | .isB => .Is | .notB => .IsNot

theorem decide_str_lt (x y : List Nat) : decide ((str x).cps.toList < (str y).cps.toList) = decide (x < y) := by rw [str_list, str_list]

mutual
theorem cok_py : ∀ a b : D, a.plain = true → b.plain = true → OrdD.cmpOk a.py b.py = D.cok a b
  | .int _, b, _, _ => by cases b <;> rfl
  | .str _, b, _, _ => by cases b <;> rfl
  | .non, b, _, _ => by cases b <;> rfl
  | .bl _, b, _, _ => by cases b <;> rfl
  | .lst _, b, _, _ => by cases b <;> rfl
  | .dct _, b, h, _ => by cases h
  | .ref _, b, h, _ => by cases h
  | .tup xs, b, h, h' => by
    cases b <;> first | rfl | skip
    rename_i ys
    simp only [D.py, OrdD.cmpOk, D.cok]
    exact cokL_py xs ys (by simpa [D.plain] using h) (by simpa [D.plain] using h')
theorem cokL_py : ∀ xs ys : List D, D.plainL xs = true → D.plainL ys = true → OrdD.cmpOkL (D.pyL xs) (D.pyL ys) = D.cokL xs ys
  | [], ys, _, _ => by cases ys <;> rfl
  | _ :: _, [], _, _ => rfl
  | x :: xs, y :: ys, h, h' => by
    have h1 : x.plain = true ∧ D.plainL xs = true := by simpa [D.plainL] using h
    have h2 : y.plain = true ∧ D.plainL ys = true := by simpa [D.plainL] using h'
    simp only [D.pyL, OrdD.cmpOkL, D.cokL]
    rw [eqv_py x y h1.1 h2.1, cok_py x y h1.1 h2.1, cokL_py xs ys h1.2 h2.2]
end
mutual
theorem lt_py : ∀ a b : D, a.plain = true → b.plain = true → D.cok a b = true → PySem.W.dataLt a.py b.py = D.lt a b
  | .int i, b, _, _, c => by
    cases b <;> first | (cases c; done) | skip
    simp only [D.py, D.lt, PySem.W.dataLt_int]
  | .str x, b, _, _, c => by
    cases b <;> first | (cases c; done) | skip
    simp only [D.py, D.lt, PySem.W.dataLt_str]
    rw [str_list, str_list]
  | .tup xs, b, h, h', c => by
    cases b <;> first | (cases c; done) | skip
    rename_i ys
    simp only [D.py, D.lt, PySem.W.dataLt_tuple]
    exact ltL_py xs ys (by simpa [D.plain] using h) (by simpa [D.plain] using h') (by simpa [D.cok] using c)
  | .non, b, _, _, c => by cases b <;> cases c
  | .bl _, b, _, _, c => by cases b <;> cases c
  | .lst _, b, _, _, c => by cases b <;> cases c
  | .dct _, b, h, _, _ => by cases h
  | .ref _, b, h, _, _ => by cases h
theorem ltL_py : ∀ xs ys : List D, D.plainL xs = true → D.plainL ys = true → D.cokL xs ys = true → PyProof.Rows.lexLt PyProof.Rows.itemOrd (PySem.W.keyToksAll (D.pyL xs)) (PySem.W.keyToksAll (D.pyL ys)) = D.ltL xs ys
  | [], [], _, _, _ => by simp only [D.pyL, D.ltL]; exact PyProof.Rows.lex_irrefl _
  | [], y :: ys, _, _, _ => by
    simp only [D.pyL, D.ltL]
    rw [PySem.W.toks_all_cons]
    simp only [PySem.W.keyToksAll]
    rw [PyProof.Rows.lex_diff (O := PyProof.Rows.itemOrd) (by simp)]
    rfl
  | x :: xs, [], _, _, _ => by
    simp only [D.pyL, D.ltL]
    rw [PySem.W.toks_all_cons]
    simp only [PySem.W.keyToksAll]
    rw [PyProof.Rows.lex_diff (O := PyProof.Rows.itemOrd) (by simp)]
    rfl
  | x :: xs, y :: ys, h, h', c => by
    have h1 : x.plain = true ∧ D.plainL xs = true := by simpa [D.plainL] using h
    have h2 : y.plain = true ∧ D.plainL ys = true := by simpa [D.plainL] using h'
    simp only [D.cokL] at c
    simp only [D.pyL, D.ltL]
    have ev := eqv_py x y h1.1 h2.1
    cases e : D.eqv x y with
    | true =>
      rw [e, if_pos rfl] at c
      rw [e] at ev
      rw [if_pos rfl, OrdD.lexL_yes (plain_py x h1.1) (plain_py y h2.1) ev]
      exact ltL_py xs ys h1.2 h2.2 c
    | false =>
      rw [e, if_neg Bool.false_ne_true] at c
      rw [e] at ev
      rw [if_neg Bool.false_ne_true, OrdD.lexL_no (plain_py x h1.1) (plain_py y h2.1) (by rw [cok_py x y h1.1 h2.1]; exact c) ev]
      exact lt_py x y h1.1 h2.1 c
end
/-- < of two tuples -/
def rLtT (K : PySem.W.Frag) : R2 := fun x y H Q => ∃ ds es, Dp K H x (.tuple ds) ∧ Dp K H y (.tuple es) ∧ PyData.plainAll ds = true ∧ PyData.plainAll es = true ∧ OrdD.cmpOkL ds es = true ∧ PyData.depthAll ds ≤ 30 ∧
  Q (.bl (PyProof.Rows.lexLt PyProof.Rows.itemOrd (PySem.W.keyToksAll ds) (PySem.W.keyToksAll es))) H
theorem op_ltT (hu : X.A.units + 64 < cLine) : OpR X (compareOp .Lt) (rLtT X.K) := by
  intro pins s σ H x y v u Q I rx ry h
  obtain ⟨ds, es, hd, he, pd, pe, c, dn, q⟩ := h
  obtain ⟨as, r1⟩ := Dp.reads I _ x v hd rx
  obtain ⟨bs, r2⟩ := Dp.reads I _ y u he ry
  have go := OrdD.rcLt_cmp 31 (.tuple ds) (.tuple es) X.A s v u as bs (by simp only [PyData.depth]; omega) r1 r2 (by simpa [PyData.plain] using pd) (by simpa [PyData.plain] using pe) (by simpa [OrdD.cmpOk] using c) (by omega)
  rw [PySem.W.dataLt_tuple] at go
  exact go X.prog X.w _ _ ⟨.bl _, H, I, rfl, q⟩

theorem cmp_of (hu : X.A.units + 64 < cLine) (o : MC) : ∃ r, OpR X (compareOp (opC o)) r ∧ ∀ (cm : List Addr) (nm : List Str) (ρ : List Addr) (F H : Hp) (s : Sto) (d e : D) (k : Bool) (x y : V) (Q : VK), StOk X.K cm nm ρ F H s → cmpD o s d e = some k →
    RepD X.K ρ F x d → RepD X.K ρ F y e → Q (.bl k) H → r x y H Q := by
  cases o with
  | eq =>
    refine ⟨_, op_eqP hu, fun cm nm ρ F H s d e k x y Q st h rx ry q => ?_⟩
    simp only [cmpD, eqD] at h
    split at h
    · rename_i hc
      cases h
      refine ⟨_, _, deref_dp st rx hc.1, deref_dp st ry hc.2.1, plain_py _ hc.1, plain_py _ hc.2.1, by rw [dep_py, dep_py]; exact hc.2.2, ?_⟩
      rw [eqv_py _ _ hc.1 hc.2.1]; exact q
    · cases h
  | ne =>
    refine ⟨_, op_neP hu, fun cm nm ρ F H s d e k x y Q st h rx ry q => ?_⟩
    simp only [cmpD, eqD] at h
    split at h
    · rename_i hc
      cases h
      refine ⟨_, _, deref_dp st rx hc.1, deref_dp st ry hc.2.1, plain_py _ hc.1, plain_py _ hc.2.1, by rw [dep_py, dep_py]; exact hc.2.2, ?_⟩
      rw [eqv_py _ _ hc.1 hc.2.1]; exact q
    · cases h
  | isin =>
    refine ⟨_, opR_or op_in_sign (op_inP hu), fun cm nm ρ F H s d e k x y Q st h rx ry q => ?_⟩
    simp only [cmpD, inD] at h
    split at h
    · rename_i c z
      cases h
      cases rx; cases ry
      exact .inl ⟨c, str z, rfl, rfl, by rw [str_list]; exact q⟩
    · split at h
      · rename_i ys hy
        split at h
        · rename_i hc
          cases h
          obtain ⟨a, vs, rfl, h1, h2⟩ := seq_of st ry hy
          refine .inr ⟨_, _, a, vs, deref_dp st rx hc.1, rfl, h1, h2.dp st.sub hc.2.1, plain_py _ hc.1, plainL_py _ hc.2.1, by rw [depL_py, dep_py]; exact hc.2.2, ?_⟩
          rw [any_py _ hc.1 _ hc.2.1]; exact q
        · cases h
      · cases h
  | notin =>
    refine ⟨_, opR_or op_notIn_sign (op_notInP hu), fun cm nm ρ F H s d e k x y Q st h rx ry q => ?_⟩
    simp only [cmpD, inD] at h
    split at h
    · rename_i c z
      cases h
      cases rx; cases ry
      exact .inl ⟨c, str z, rfl, rfl, by rw [str_list]; exact q⟩
    · split at h
      · rename_i ys hy
        split at h
        · rename_i hc
          cases h
          obtain ⟨a, vs, rfl, h1, h2⟩ := seq_of st ry hy
          refine .inr ⟨_, _, a, vs, deref_dp st rx hc.1, rfl, h1, h2.dp st.sub hc.2.1, plain_py _ hc.1, plainL_py _ hc.2.1, by rw [depL_py, dep_py]; exact hc.2.2, ?_⟩
          rw [any_py _ hc.1 _ hc.2.1]; exact q
        · cases h
      · cases h
  | isN =>
    refine ⟨_, op_isN, fun cm nm ρ F H s d e k x y Q st h rx ry q => ?_⟩
    simp only [cmpD] at h
    split at h
    · cases ry
      refine ⟨rfl, ?_⟩
      cases rx <;> cases h <;> exact q
    · cases h
  | notN =>
    refine ⟨_, op_notN, fun cm nm ρ F H s d e k x y Q st h rx ry q => ?_⟩
    simp only [cmpD] at h
    split at h
    · cases ry
      refine ⟨rfl, ?_⟩
      cases rx <;> cases h <;> exact q
    · cases h
  | isB =>
    refine ⟨_, op_isBl, fun cm nm ρ F H s d e k x y Q st h rx ry q => ?_⟩
    simp only [cmpD] at h
    split at h
    · cases rx; cases ry; cases h; exact ⟨_, _, rfl, rfl, q⟩
    · cases h
  | notB =>
    refine ⟨_, op_notBl, fun cm nm ρ F H s d e k x y Q st h rx ry q => ?_⟩
    simp only [cmpD] at h
    split at h
    · cases rx; cases ry; cases h; exact ⟨_, _, rfl, rfl, q⟩
    · cases h
  | lt =>
    refine ⟨_, opR_or (opR_or op_lt op_lt_str) (op_ltT hu), fun cm nm ρ F H s d e k x y Q st h rx ry q => ?_⟩
    simp only [cmpD] at h
    split at h
    · cases rx; cases ry; cases h; exact .inl (.inl ⟨_, _, rfl, rfl, q⟩)
    · cases rx; cases ry; cases h; exact .inl (.inr ⟨_, _, rfl, rfl, by rw [decide_str_lt]; exact q⟩)
    · rename_i xs ys
      split at h
      · rename_i hc
        cases h
        refine .inr ⟨_, _, (RepD.dp st.sub rx (by simpa [D.plain] using hc.1) : Dp X.K H x (.tuple (D.pyL xs))), (RepD.dp st.sub ry (by simpa [D.plain] using hc.2.1) : Dp X.K H y (.tuple (D.pyL ys))), plainL_py _ hc.1, plainL_py _ hc.2.1, by rw [cokL_py _ _ hc.1 hc.2.1]; exact hc.2.2.2, by rw [depL_py]; exact hc.2.2.1, ?_⟩
        rw [ltL_py _ _ hc.1 hc.2.1 hc.2.2.2]
        exact q
      · cases h
    · cases h
  | gt =>
    refine ⟨_, opR_or op_gt op_gt_str, fun cm nm ρ F H s d e k x y Q st h rx ry q => ?_⟩
    simp only [cmpD] at h
    split at h
    · cases rx; cases ry; cases h; exact .inl ⟨_, _, rfl, rfl, q⟩
    · cases rx; cases ry; cases h; exact .inr ⟨_, _, rfl, rfl, by rw [decide_str_lt]; exact q⟩
    · cases h
  | le =>
    refine ⟨_, op_le, fun cm nm ρ F H s d e k x y Q st h rx ry q => ?_⟩
    simp only [cmpD] at h
    split at h
    · cases rx; cases ry; cases h; exact ⟨_, _, rfl, rfl, q⟩
    · cases h
  | ge =>
    refine ⟨_, op_ge, fun cm nm ρ F H s d e k x y Q st h rx ry q => ?_⟩
    simp only [cmpD] at h
    split at h
    · cases rx; cases ry; cases h; exact ⟨_, _, rfl, rfl, q⟩
    · cases h

/-! ### truth, index, slices -/
theorem tru_of {cm : List Addr} {nm : List Str} {ρ : List Addr} {F H : Hp} {s : Sto} {d : D} {x : V} {k : Bool} (st : StOk X.K cm nm ρ F H s) (r : RepD X.K ρ F x d) (h : truth s d = some k) : TruV X.K x H k := by
  have hs := fun xs (h : seqD s d = some xs) => seq_of st r h
  cases r with
  | dct => cases h
  | non => cases h; rfl
  | bl => cases h; rfl
  | int => cases h; rfl
  | str z =>
    simp only [truth] at h
    split at h
    · rename_i hl
      cases h
      refine ⟨by rw [str_len, ← line_eq]; exact hl, ?_⟩
      rw [str_len]
      cases z with
      | nil => rfl
      | cons a z =>
        symm
        simp only [List.length_cons, ne_eq, reduceCtorEq, not_false_eq_true, decide_true, bne_iff_ne]
        omega
    · cases h
  | tup hq l =>
    simp only [truth, Option.map_eq_some_iff] at h
    obtain ⟨xs, h1, h2⟩ := h
    cases h1
    exact .inr (.inl ⟨_, Same.sqT st.sub hq, by rw [← h2]; cases l <;> rfl⟩)
  | lst hq l =>
    simp only [truth, Option.map_eq_some_iff] at h
    obtain ⟨xs, h1, h2⟩ := h
    cases h1
    exact .inl ⟨_, Same.seq st.sub hq, by rw [← h2]; cases l <;> rfl⟩
  | @ref n a e =>
    simp only [truth, Option.map_eq_some_iff] at h
    obtain ⟨xs, h1, h2⟩ := h
    obtain ⟨a', vs, ha, hq, l⟩ := hs xs h1
    cases ha
    rcases hq with hq | hq
    · exact .inl ⟨_, hq, by rw [← h2]; cases l <;> rfl⟩
    · exact .inr (.inl ⟨_, hq, by rw [← h2]; cases l <;> rfl⟩)
theorem RepL.atI {K : PySem.W.Frag} {ρ : List Addr} {F : Hp} {vs : List V} {ds : List D} (l : RepL K ρ F vs ds) {i : Int} {d : D} (h : L2.atI ds i = some d) : ∃ v, L2.atI vs i = some v ∧ RepD K ρ F v d := by
  unfold L2.atI at h ⊢
  rw [l.length]
  cases e : ixN ds.length i with
  | none => rw [e] at h; cases h
  | some j =>
    rw [e] at h
    exact l.get h
theorem ix_of : ∃ r, IxR X r ∧ ∀ (cm : List Addr) (nm : List Str) (ρ : List Addr) (F H : Hp) (s : Sto) (d e z : D) (x y : V) (Q : VK), StOk X.K cm nm ρ F H s → idxD s d e = some z → RepD X.K ρ F x d → RepD X.K ρ F y e →
    (∀ v, RepD X.K ρ F v z → Q v H) → r x y H Q := by
  refine ⟨_, ix_seq, fun cm nm ρ F H s d e z x y Q st h rx ry q => ?_⟩
  unfold idxD at h
  split at h
  · rename_i i
    cases ry
    split at h
    · rename_i w
      cases rx
      split at h
      · rename_i hl
        rw [Option.map_eq_some_iff] at h
        obtain ⟨c, h1, h2⟩ := h
        cases h2
        exact .inr (.inr ⟨_, i, c, rfl, rfl, by rw [str_len, ← line_eq]; exact hl, by rw [str_list]; exact h1, q _ (.str [c])⟩)
      · cases h
    · rw [Option.bind_eq_some_iff] at h
      obtain ⟨xs, h1, h2⟩ := h
      obtain ⟨a, vs, rfl, hq, l⟩ := seq_of st rx h1
      obtain ⟨v, h3, h4⟩ := l.atI h2
      rcases hq with hq | hq
      · exact .inl ⟨a, vs, i, v, rfl, rfl, hq, h3, q v h4⟩
      · exact .inr (.inl ⟨a, vs, i, v, rfl, rfl, hq, h3, q v h4⟩)
  · cases h
theorem cutG_V (vs : List V) (lo hi : Option Int) : cutG vs lo hi = cutV vs lo hi := rfl
theorem RepL.cut {K : PySem.W.Frag} {ρ : List Addr} {F : Hp} {vs : List V} {ds : List D} (l : RepL K ρ F vs ds) (lo hi : Option Int) : RepL K ρ F (cutV vs lo hi) (cutG ds lo hi) := by
  unfold cutV cutG
  rw [l.length]
  exact (l.drop _).take _
theorem cutS_str (z : List Nat) (lo hi : Option Int) : cutS (str z) lo hi = str (cutG z lo hi) := by
  unfold cutS cutG
  rw [str_len, str_list]
  rfl
end
end Mn
set_option Elab.async false
set_option linter.all false
set_option maxRecDepth 100000
set_option maxHeartbeats 4000000
/-! The small language against the text: what matches, and what it tells of the heap. Expressions. -/
namespace Mn
open PySem L2 PyProof.Rows

/-! ### the text taken apart -/
def asName : Expr → Option Str | .Name x _ => some x | _ => none
def asConst : Expr → Option Const | .Constant c _ _ => some c | _ => none
def asBin : Expr → Option (Expr × Operator × Expr) | .BinOp a o b _ => some (a, o, b) | _ => none
def asUn : Expr → Option (UnaryOp × Expr) | .UnaryOp o a _ => some (o, a) | _ => none
def asBool : Expr → Option (BoolOp × List Expr) | .BoolOp o es _ => some (o, es) | _ => none
def asCmp : Expr → Option (Expr × List CmpOp × List Expr) | .Compare a os es _ => some (a, os, es) | _ => none
def asTup : Expr → Option (List Expr) | .Tuple es _ _ => some es | _ => none
def asLst : Expr → Option (List Expr) | .List es _ => some es | _ => none
def asSub : Expr → Option (Expr × Expr) | .Subscript a b _ => some (a, b) | _ => none
def asSlice : Expr → Option (Option Expr × Option Expr × Option Expr) | .Slice a b c _ => some (a, b, c) | _ => none
def asCall : Expr → Option (Expr × List Expr × List Keyword) | .Call f es ks _ => some (f, es, ks) | _ => none
def asIf : Expr → Option (Expr × Expr × Expr) | .IfExp a b c _ => some (a, b, c) | _ => none
def asComp : Expr → Option (Expr × Expr × Expr × List Expr × Scope) | .ListComp e [⟨t, i, fs, 0⟩] sc _ => some (e, t, i, fs, sc) | _ => none
theorem asName_ {e : Expr} {x : Str} (h : asName e = some x) : ∃ p, e = .Name x p := by cases e <;> cases h; exact ⟨_, rfl⟩
theorem asConst_ {e : Expr} {c : Const} (h : asConst e = some c) : ∃ k p, e = .Constant c k p := by cases e <;> cases h; exact ⟨_, _, rfl⟩
theorem asBin_ {e a b : Expr} {o : Operator} (h : asBin e = some (a, o, b)) : ∃ p, e = .BinOp a o b p := by cases e <;> cases h; exact ⟨_, rfl⟩
theorem asUn_ {e a : Expr} {o : UnaryOp} (h : asUn e = some (o, a)) : ∃ p, e = .UnaryOp o a p := by cases e <;> cases h; exact ⟨_, rfl⟩
theorem asBool_ {e : Expr} {o : BoolOp} {es : List Expr} (h : asBool e = some (o, es)) : ∃ p, e = .BoolOp o es p := by cases e <;> cases h; exact ⟨_, rfl⟩
theorem asCmp_ {e a : Expr} {os : List CmpOp} {es : List Expr} (h : asCmp e = some (a, os, es)) : ∃ p, e = .Compare a os es p := by cases e <;> cases h; exact ⟨_, rfl⟩
theorem asTup_ {e : Expr} {es : List Expr} (h : asTup e = some es) : ∃ k p, e = .Tuple es k p := by cases e <;> cases h; exact ⟨_, _, rfl⟩
theorem asLst_ {e : Expr} {es : List Expr} (h : asLst e = some es) : ∃ p, e = .List es p := by cases e <;> cases h; exact ⟨_, rfl⟩
theorem asSub_ {e a b : Expr} (h : asSub e = some (a, b)) : ∃ p, e = .Subscript a b p := by cases e <;> cases h; exact ⟨_, rfl⟩
theorem asSlice_ {e : Expr} {a b c : Option Expr} (h : asSlice e = some (a, b, c)) : ∃ p, e = .Slice a b c p := by cases e <;> cases h; exact ⟨_, rfl⟩
theorem asCall_ {e f : Expr} {es : List Expr} {ks : List Keyword} (h : asCall e = some (f, es, ks)) : ∃ p, e = .Call f es ks p := by cases e <;> cases h; exact ⟨_, rfl⟩
theorem asIf_ {e a b c : Expr} (h : asIf e = some (a, b, c)) : ∃ p, e = .IfExp a b c p := by cases e <;> cases h; exact ⟨_, rfl⟩
theorem asComp_ {e t i elt : Expr} {fs : List Expr} {sc : Scope} (h : asComp e = some (elt, t, i, fs, sc)) : ∃ p, e = .ListComp elt [⟨t, i, fs, 0⟩] sc p := by
  unfold asComp at h
  split at h
  · cases h; exact ⟨_, rfl⟩
  · cases h

def asDic : Expr → Option (List (Option Expr) × List Expr) | .Dict ks vs _ => some (ks, vs) | _ => none
theorem asDic_ {e : Expr} {ks : List (Option Expr)} {vs : List Expr} (h : asDic e = some (ks, vs)) : ∃ p, e = .Dict ks vs p := by cases e <;> cases h; exact ⟨_, rfl⟩
def asMth : Expr → Option (Expr × Str × List Expr × Bool) | .Call (.Attribute o n pa) es [] p => some (o, n, es, pa.endLine == p.line) | _ => none
theorem asMth_ {e o : Expr} {n : Str} {es : List Expr} {b : Bool} (h : asMth e = some (o, n, es, b)) : ∃ pa p, e = .Call (.Attribute o n pa) es [] p ∧ (pa.endLine == p.line) = b := by
  unfold asMth at h
  split at h
  · cases h; exact ⟨_, _, rfl, rfl⟩
  · cases h
def plainBs : Expr → Bool | .Call (.Name _ _) [] [] _ => false | _ => true
theorem bs_ {o : Expr} (h : plainBs o = true) (n : Str) (env : Env) (w : Sem Value) : attributeBase o n env w = w := by
  unfold attributeBase
  split
  · cases h
  · rfl
def notStar : Expr → Bool | .Starred _ _ => false | _ => true
def notSet : Expr → Bool | .Set _ _ _ => false | _ => true
def plainIx : Expr → Bool | .Slice _ _ _ _ => false | _ => true
def notComp : Expr → Bool | .ListComp _ _ _ _ => false | .SetComp _ _ _ _ => false | .DictComp _ _ _ _ _ => false | _ => true
/-- an expression whose truth is its value's -/
def plainTest : Expr → Bool | .BoolOp _ _ _ => false | .UnaryOp .Not _ _ => false | .Compare _ _ _ _ => false | .IfExp _ _ _ _ => false | .NamedExpr _ _ _ => false | _ => true

theorem starEach_ {e : Expr} (h : notStar e = true) (es : List Expr) (env : Env) : starEach (e :: es) env = (false, eval e env) :: starEach es env := by
  cases e <;> first | rfl | cases h
theorem nostars : ∀ {es : List Expr} (p : Pos) (env : Env), es.all notStar = true → (backTo p (starEach es env)).any (·.1) = false
  | [], _, _, _ => rfl
  | e :: es, p, env, h => by
    have h1 : notStar e = true ∧ es.all notStar = true := by simpa using h
    rw [starEach_ h1.1]
    show (false || (backTo p (starEach es env)).any (·.1)) = false
    rw [nostars p env h1.2]
    rfl
theorem behind_ {op : CmpOp} {e : Expr} (h : notSet e = true) : behindInMarks op e = false := by cases e <;> first | rfl | cases h
theorem folded_ {e : Expr} (h : notSet e = true) (env : Env) : ∀ x, foldedSetIterable e env x = pure x := fun x => by cases e <;> first | rfl | cases h
theorem plainIx_ {e : Expr} (h : plainIx e = true) : PlainIx e := fun o i => by cases e <;> first | rfl | cases h
theorem swaps_ {e : Expr} (h : notComp e = true) (t : Option Expr) (l : Nat) (env : Env) : swapsWith e t l env = pure false := by cases e <;> first | rfl | cases h
theorem test_ {e : Expr} (h : plainTest e = true) (env : Env) : ∀ whole, isTrue e env whole = (do let v ← whole; standAt e.pos; holding [v] (truthy v)) := fun whole => by
  cases e <;> first | rfl | cases h | skip
  rename_i o a p
  cases o <;> first | rfl | cases h
end Mn
set_option Elab.async false
set_option linter.all false
set_option maxRecDepth 100000
set_option maxHeartbeats 4000000
/-! The text against the small language: expressions. -/
namespace Mn
open PySem L2 PyProof.Rows

/-- what is known of the module: the defs by number, the constants, the built-in names that it leaves -/
structure Gi where
  fn : List Str
  cs : List (Str × D)
  bl : List Str
  /-- the classes' names, their methods (class, name, number of the def), what isinstance says of them, the fields' names -/
  cl : List Str := []
  mt : List (Nat × Str × Nat) := []
  ic : List (Nat × Str × Bool) := []
  nm : List Str := []
  /-- the exceptions' names and fields -/
  xc : List (Str × List Str) := []
  /-- what isinstance and except say of them: the class named, the exception's number, whether it is one -/
  xs : List (Str × Nat × Bool) := []

def D.sc : D → D → Bool
  | .non, .non => true
  | .bl a, .bl b => decide (a = b)
  | .int i, .int j => decide (i = j)
  | .str x, .str y => decide (x = y)
  | _, _ => false
theorem D.sc_eq {d e : D} (h : D.sc d e = true) : d = e := by
  cases d <;> cases e <;> simp [D.sc] at h <;> first | rfl | (subst h; rfl)

def visB (sc : Scope) (x : Str) : Bool := match sc.names.lookup x with | some .local => true | some .cell => true | some .free => true | _ => false
def locB (sc : Scope) (x : Str) : Bool := match sc.names.lookup x with | some .local => true | some .cell => true | _ => false
def glB (sc : Scope) (x : Str) : Bool := match sc.names.lookup x with | some .globalImplicit => true | _ => false
theorem visB_ {sc : Scope} {x : Str} (h : visB sc x = true) : Vis sc x := by
  unfold visB at h
  split at h <;> first | exact .inl (by assumption) | exact .inr (.inl (by assumption)) | exact .inr (.inr (by assumption)) | cases h
theorem locB_ {sc : Scope} {x : Str} (h : locB sc x = true) : Loc sc x := by
  unfold locB at h
  split at h <;> first | exact .inl (by assumption) | exact .inr (by assumption) | cases h
theorem glB_ {X : Cx} {x : Str} (h : glB X.env.scope x = true) : Gl X x := by
  unfold glB at h
  split at h <;> first | assumption | cases h

def opBB (o : MB) (p : Operator) : Bool := match o, p with
  | .add, .Add | .sub, .Sub | .mul, .Mult | .fdiv, .FloorDiv | .mod, .Mod | .pow, .Pow => true
  | _, _ => false
theorem opBB_ {o : MB} {p : Operator} (h : opBB o p = true) : p = opB o := by cases o <;> cases p <;> first | rfl | cases h
def opCB (o : MC) (p : CmpOp) : Bool := match o, p with
  | .eq, .Eq | .ne, .NotEq | .lt, .Lt | .le, .LtE | .gt, .Gt | .ge, .GtE | .isin, .In | .notin, .NotIn | .isN, .Is | .notN, .IsNot | .isB, .Is | .notB, .IsNot => true
  | _, _ => false
theorem opCB_ {o : MC} {p : CmpOp} (h : opCB o p = true) : p = opC o := by cases o <;> cases p <;> first | rfl | cases h

def bfName : BF → Str × Nat × Bool
  | .len => ("len", 1, false) | .abs => ("abs", 1, false) | .max2 => ("max", 2, false) | .min2 => ("min", 2, false) | .max3 => ("max", 3, false) | .min3 => ("min", 3, false)
  | .minL => ("min", 1, false) | .maxL => ("max", 1, false) | .minD => ("min", 1, false) | .maxD => ("max", 1, false) | .intOf => ("int", 1, true) | .strOf => ("str", 1, true)
  | .sum => ("sum", 1, false) | .all => ("all", 1, false) | .any => ("any", 1, false) | .tuple => ("tuple", 1, true)
def tyName : Ty → String
  | .int => "int" | .bool => "bool" | .str => "str" | .tup => "tuple" | .lst => "list" | .dct => "dict"

section
variable (G : Gi) (N : List Str)
def tgB (sc : Scope) (own : List Nat) (i : Nat) (e : Expr) : Bool := match asName e with
  | some x => decide (N[i]? = some x) && locB sc x && own.contains i
  | none => false
def tgsB (sc : Scope) (own : List Nat) : List Nat → List Expr → Bool
  | [], [] => true
  | i :: is, e :: es => tgB N sc own i e && tgsB sc own is es
  | _, _ => false
def mT (sc : Scope) (own : List Nat) (t : MT) (e : Expr) : Bool := match t with
  | .one i => tgB N sc own i e
  | .tup is => match asTup e with | some es => tgsB N sc own is es | none => false
  | .two i is => match asTup e with | some [e1, e2] => tgB N sc own i e1 && (match asTup e2 with | some es => tgsB N sc own is es | none => false) | _ => false
def isZ : MI → Bool | .zip _ _ => true | _ => false
def tupE : Expr → Bool | .Tuple _ _ _ => true | _ => false
def isYes : MQ → Bool | .yes => true | _ => false
def nmB (sc : Scope) (x : Str) (e : Expr) : Bool := match asName e with | some y => decide (y = x) && glB sc x && (G.bl.contains x) | none => false
mutual
def mE (sc : Scope) : ME → Expr → Bool
  | .int i, e => (match asConst e with | some (.int j) => decide (i = j) | _ => false)
  | .str z, e => (match asConst e with | some (.str x) => decide (x = str z) | _ => false)
  | .non, e => (match asConst e with | some .none => true | _ => false)
  | .bl b, e => (match asConst e with | some (.bool c) => decide (b = c) | _ => false)
  | .gc x d, e => (match asName e with | some y => decide (y = x) && glB sc x && (G.cs.any fun p => decide (p.1 = x) && D.sc p.2 d) && !(x == ("__debug__" : Str)) | none => false)
  | .var i, e => (match asName e with | some x => decide (N[i]? = some x) && visB sc x && !(x == ("__debug__" : Str)) && !(x == ("__classdict__" : Str)) | none => false)
  | .bin o a b, e => (match asBin e with | some (x, p, y) => opBB o p && mE sc a x && mE sc b y | none => false)
  | .neg a, e => (match asUn e with | some (.USub, x) => mE sc a x | _ => false)
  | .cmp o a b, e => (match asCmp e with | some (x, [p], [y]) => opCB o p && notSet y && mE sc a x && mE sc b y | _ => false)
  | .chain o p a b c, e => (match asCmp e with | some (x, [q, r], [y, z]) => opCB o q && opCB p r && notSet z && mE sc a x && mE sc b y && mE sc c z | _ => false)
  | .andL ms, e => (match asBool e with | some (.And, es) => mAnd sc ms es | _ => false)
  | .orL ms, e => (match asBool e with | some (.Or, es) => mAnd sc ms es | _ => false)
  | .notE a, e => (match asUn e with | some (.Not, x) => mE sc a x | _ => false)
  | .ife c a b, e => (match asIf e with | some (t, x, y) => mQ sc c t && mE sc a x && mE sc b y | none => false)
  | .tup ms, e => (match asTup e with | some es => mEs sc ms es | none => false)
  | .idx a b, e => (match asSub e with | some (x, y) => plainIx y && mE sc a x && mE sc b y | none => false)
  | .cutS a lo hi, e => (match asSub e with | some (x, y) => (match asSlice y with | some (l, h, none) => mE sc a x && mP sc lo l && mP sc hi h | _ => false) | none => false)
  | .fz f, e => mF sc f e
  | .peek _ m, e => mE sc m e
  | .dft mx a k, e => (match asCall e with | some (g, [x], [q]) => nmB G sc (dfName mx) g && decide (q.arg = some (Str.ofString "default")) && notStar x && mE sc a x && mE sc k q.value | _ => false)
  | .bi f ms, e => (match asCall e with | some (g, es, []) => nmB G sc (bfName f).1 g && decide (es.length = (bfName f).2.1) && mEs sc ms es | _ => false)
  | .isi a t, e => (match asCall e with | some (g, [x, y], []) => nmB G sc "isinstance" g && nmB G sc (Str.ofString (tyName t)) y && notStar x && notStar y && mE sc a x | _ => false)
  | .bm .join o (.cons a .nil), e => (match asMth e with | some (x, n, [y], b) => decide (n = "join") && plainBs x && b && notStar y && mE sc o x && mE sc a y | _ => false)
  | .bm .upper o .nil, e => (match asMth e with | some (x, n, [], b) => decide (n = "upper") && plainBs x && b && mE sc o x | _ => false)
  | .bm .index o (.cons a .nil), e => (match asMth e with | some (x, n, [y], b) => decide (n = "index") && plainBs x && b && notStar y && mE sc o x && mE sc a y | _ => false)
  | .bm _ _ _, _ => false
  | .dct0, e => (match asDic e with | some ([], []) => true | _ => false)
  | .dct1 z i, e => (match asDic e with | some ([some k], [v]) => (match asConst k, asConst v with | some (.str x), some (.int j) => decide (x = str z) && decide (j = i) | _, _ => false) | _ => false)
  | .peekI i m, e => (match asSub e with | some (x, y) => plainIx y && (match asName x with | some z => decide (N[i]? = some z) && visB sc z && !(z == ("__debug__" : Str)) && !(z == ("__classdict__" : Str)) | none => false) && mE sc m y | none => false)
  | .newI c, e => (match asCall e with | some (g, [], []) => (match asName g with | some x => decide (G.cl[c]? = some x) && glB sc x && !(x == ("__debug__" : Str)) | none => false) | _ => false)
  | .isiC a x tb, e => (match asCall e with | some (g, [y, z], []) => nmB G sc "isinstance" g && notStar y && notStar z && mE sc a y && (match asName z with | some x' => decide (x' = x) && glB sc x && !(x == ("__debug__" : Str)) | none => false) && G.cl.contains x && tb.all (fun p => G.ic.contains (p.1, x, p.2)) | _ => false)
  | .lenSet a, e => (match asCall e with | some (g, [y], []) => nmB G sc "len" g && (match asCall y with | some (g2, [z], []) => nmB G sc "set" g2 && notStar z && mE sc a z | _ => false) | _ => false)
  | .newL ms, e => (match asLst e with | some es => mEs sc ms es | none => false)
  | .xfl _ _ _, _ => false
  | .xis _ _ _, _ => false
  | .xit _ _, _ => false
def mEs (sc : Scope) : MEs → List Expr → Bool
  | .nil, [] => true
  | .cons m ms, e :: es => notStar e && mE sc m e && mEs sc ms es
  | _, _ => false
def mAnd (sc : Scope) : MEs → List Expr → Bool
  | .cons m .nil, [e] => mE sc m e
  | .cons m ms, e :: f :: es => mE sc m e && mAnd sc ms (f :: es)
  | _, _ => false
def mQ (sc : Scope) : MQ → Expr → Bool
  | .andQ qs, e => (match asBool e with | some (.And, es) => mQs sc qs es | _ => false)
  | .orQ qs, e => (match asBool e with | some (.Or, es) => mQs sc qs es | _ => false)
  | .notQ q, e => (match asUn e with | some (.Not, x) => mQ sc q x | _ => false)
  | .cmpQ o a b, e => (match asCmp e with | some (x, [p], [y]) => opCB o p && notSet y && mE sc a x && mE sc b y | _ => false)
  | .chainQ o p a b c, e => (match asCmp e with | some (x, [q, r], [y, z]) => opCB o q && opCB p r && notSet z && mE sc a x && mE sc b y && mE sc c z | _ => false)
  | .val m, e => plainTest e && mE sc m e
  | .yes, _ => false
def mQs (sc : Scope) : MQs → List Expr → Bool
  | .cons q .nil, [e] => mQ sc q e
  | .cons q qs, e :: f :: es => mQ sc q e && mQs sc qs (f :: es)
  | _, _ => false
def mP (sc : Scope) : MO → Option Expr → Bool
  | .none, none => true
  | .some m, some e => mE sc m e
  | _, _ => false
def mF (sc : Scope) : MF → Expr → Bool
  | .lst ms, e => (match asLst e with | some es => mEs sc ms es | none => false)
  | .comp own tg it cnd elt, e => (match asComp e with
    | some (x, t, i, fs, sc2) => blkC N sc sc2 (own.map fun k => (N.getD k "", k)) && mT N sc2 own tg t && (notSet i && (!isZ it || tupE t)) && mI sc it i && mE (relS sc2 sc) elt x && (match fs with | [] => isYes cnd | [c] => mQ (relS sc2 sc) cnd c | _ => false)
    | none => false)
  | .cutL a lo hi, e => (match asSub e with | some (x, y) => (match asSlice y with | some (l, h, none) => mE sc a x && mP sc lo l && mP sc hi h | _ => false) | none => false)
  | .rev a, e => (match asSub e with
    | some (x, .Slice none none (some (.UnaryOp .USub (.Constant (.int 1) _ _) _)) _) => mE sc a x
    | _ => false)
  | .cat a b, e => (match asBin e with | some (x, .Add, y) => mE sc a x && mE sc b y | _ => false)
  | .rep a b, e => (match asBin e with | some (x, .Mult, y) => mF sc a x && mE sc b y | _ => false)
  | .repE a b, e => (match asBin e with | some (x, .Mult, y) => mE sc a x && mE sc b y | _ => false)
  | .sortK f a, e => (match asCall e with | some (g, [x], [q]) => nmB G sc "sorted" g && decide (q.arg = some (Str.ofString "key")) && notStar x && mE sc a x && (match asName q.value with | some y => decide (G.fn[f]? = some y) && glB sc y && !(y == ("__debug__" : Str)) | none => false) | _ => false)
  | .lrange a, e => (match asCall e with | some (g, [y], []) => nmB G sc "list" g && (match asCall y with | some (g2, [z], []) => nmB G sc "range" g2 && notStar z && mE sc a z | _ => false) | _ => false)
  | .bf .listOf m, e => (match asCall e with | some (g, [x], []) => nmB G sc "list" g && notStar x && mE sc m x | _ => false)
  | .bf .sorted m, e => (match asCall e with | some (g, [x], []) => nmB G sc "sorted" g && notStar x && mE sc m x | _ => false)
  | .bf .sortSet m, e => (match asCall e with | some (g, [y], []) => nmB G sc "sorted" g && (match asCall y with | some (g2, [z], []) => nmB G sc "set" g2 && notStar z && mE sc m z | _ => false) | _ => false)
  | .meth tb o x ms, e => (match asMth e with | some (y, n, es, b) => decide (n = x) && plainBs y && b && decide (es.length < 20) && mE sc o y && mEs sc ms es && tb.all (fun p => G.mt.contains (p.1, x, p.2)) && !(G.nm.contains x) | _ => false)
  | .call f ms, e => (match asCall e with
    | some (g, es, []) => (match asName g with
      | some x => decide (G.fn[f]? = some x) && glB sc x && !(x == ("__debug__" : Str)) && mEs sc ms es
      | none => false)
    | _ => false)
def mI (sc : Scope) : MI → Expr → Bool
  | .seq m, e => mE sc m e
  | .r1 a, e => (match asCall e with | some (g, [x], []) => nmB G sc "range" g && notStar x && mE sc a x | _ => false)
  | .r2 a b, e => (match asCall e with | some (g, [x, y], []) => nmB G sc "range" g && notStar x && notStar y && mE sc a x && mE sc b y | _ => false)
  | .zip a b, e => (match asCall e with | some (g, [x, y], []) => nmB G sc "zip" g && notStar x && notStar y && mE sc a x && mE sc b y | _ => false)
  | .r3 a b c, e => (match asCall e with | some (g, [x, y, z], []) => nmB G sc "range" g && notStar x && notStar y && notStar z && mE sc a x && mE sc b y && mE sc c z | _ => false)
end
end
end Mn
set_option Elab.async false
set_option linter.all false
set_option maxRecDepth 100000
set_option maxHeartbeats 4000000
/-! The small language is sound: expressions without walks. -/
namespace Mn
open PySem L2 PyProof.Rows

structure Ev where
  cm : List Addr
  nm : List Str
  cf : Nat → List D → Sto → Re O
  H0 : Hp
  xm : List Addr
  xf : List (List Str)
  W : L2.WX
  hx : Option XH := none
abbrev Ev.HX (Z : Ev) : Hx := ⟨Z.H0, Z.hx⟩
section
variable (K : PySem.W.Frag) (Z : Ev)
def tR {α β : Type} (R : Rel α β) (f : Lcs → Sto → Re α) : L2.St → Hp → (β → Hp → Prop) → Prop := fun σ H Q =>
  ∃ δ s ρ F, StOk K Z.cm Z.nm ρ F H s ∧ LocOk K Z.HX ρ F H σ δ ∧ Post K Z.cm Z.nm R (f δ s) ρ F H s Q
abbrev tE (m : ME) : TE := tR K Z (RD K) (evalE Z.cf m)
abbrev tEs (m : MEs) : TA := tR K Z (RL K) (evalEs Z.cf m)
abbrev tQ (m : MQ) : TT := tR K Z RB (evalT Z.cf m)
abbrev tF (m : MF) : TE := tR K Z (RO K) (evalF Z.cf m)
abbrev tP (m : MO) : TO := tR K Z RP (evalP Z.cf m)
abbrev tAnd (m : MEs) : TE := tR K Z (RD K) (evalAnd Z.cf m)
abbrev tOr (m : MEs) : TE := tR K Z (RD K) (evalOr Z.cf m)
abbrev tAndT (m : MQs) : TT := tR K Z RB (evalAndT Z.cf m)
abbrev tOrT (m : MQs) : TT := tR K Z RB (evalOrT Z.cf m)
end

def spI (K : PySem.W.Frag) (cm : List Addr) (nm : List Str) (cf : Nat → List D → Sto → Re O) (np f : Nat) : Sp := fun vs H Q _ =>
  ∃ ρ F s ds, vs.length = np ∧ StOk K cm nm ρ F H s ∧ RepL K ρ F vs ds ∧ Post K cm nm (RO K) (cf f ds s) ρ F H s Q

/-- what it wants to raise C(..) -/
def RaisT (K : PySem.W.Frag) (mg : Str → Option Value) (C : Addr) (x : Str) (fs : List Str) : Prop := match fs with
  | [] => mg x = some (.ref C) ∧ (x == ("__debug__" : Str)) = false ∧ (∃ bmB B newId initId, ExcBaseFacts B newId initId bmB ∧ PySem.W.excIn K C bmB newId = true) ∧ PySem.W.keepIn K (.ref C) = true ∧ PySem.W.subIn K (.ref C) (.type "BaseException") = some true ∧ PySem.W.typeIn K (.ref C) = some (.type "type")
  | [f] => (f = ("at" : Str) ∧ ∃ qi fI, PySem.OwnX_at.LowTxt K mg x qi C fI) ∨ (f = ("name" : Str) ∧ ∃ qi fI, PySem.OwnX_name.LowTxt K mg x qi C fI) ∨ (f = ("wanted" : Str) ∧ ∃ qi fI, PySem.OwnX_wanted.LowTxt K mg x qi C fI)
  | _ => False
/-- an exception in flight: its class's number, its one field if it has one -/
def XRep (K : PySem.W.Frag) (xm : List Addr) (xf : List (List Str)) (x : D) (ρ : List Addr) (F H : Hp) (cls : Value) (d : Option Addr) : Prop := ∃ (c : Nat) (C : Addr) (fs : List Str), xm[c]? = some C ∧ xf[c]? = some fs ∧ cls = .ref C ∧
  match x, fs with
  | .tup [.int i], [] => i = (c : Int) ∧ d = none
  | .tup [.int i, v], [f] => i = (c : Int) ∧ ∃ (a : Addr) (u : V), d = some a ∧ H a = some (.xd [(f, u)]) ∧ RepD K ρ F u v
  | _, _ => False
/-- the answer of a call that may raise -/
def PostX (K : PySem.W.Frag) (cm : List Addr) (nm : List Str) (xm : List Addr) (xf : List (List Str)) (r : Re O) (ρ : List Addr) (F H : Hp) (s : Sto) (Q : VK) (E : XK) : Prop := match r with
  | .ok a s' => ∀ b ρ' F' H', Ext ρ F H s ρ' F' H' s' → StOk K cm nm ρ' F' H' s' → RO K H ρ' F' H' b a → Q b H'
  | .ex x s' => ∀ ρ' F' H' cls d, Ext ρ F H s ρ' F' H' s' → StOk K cm nm ρ' F' H' s' → XRep K xm xf x ρ' F' H' cls d → E cls d H'
  | .no => False
def spX (K : PySem.W.Frag) (cm : List Addr) (nm : List Str) (xm : List Addr) (xf : List (List Str)) (cf : Nat → List D → Sto → Re O) (np f : Nat) : Sp := fun vs H Q E =>
  ∃ ρ F s ds, vs.length = np ∧ StOk K cm nm ρ F H s ∧ RepL K ρ F vs ds ∧ PostX K cm nm xm xf (cf f ds s) ρ F H s Q E
/-- what a suite behind except leans on, too -/
structure GdH (X : Cx) (Z : Ev) (G : Gi) : Prop where
  nd : X.N.Nodup
  hu : X.A.units + 64 < cLine
  bl : ∀ x, G.bl.contains x = true → X.mg x = none
  cs : ∀ p ∈ G.cs, ∃ u v, X.mg p.1 = some u ∧ RelV v u ∧ ∀ ρ F, RepD X.K ρ F v p.2
  exc : ∀ (c : Nat) (x : Str) (fs : List Str), G.xc[c]? = some (x, fs) → ∃ C, Z.xm[c]? = some C ∧ Z.xf[c]? = some fs ∧ RaisT X.K X.mg C x fs
  xs : ∀ p ∈ G.xs, ∃ C vv v, RelV vv v ∧ (∀ u, RelV vv u → u = v) ∧ Z.xm[p.2.1]? = some C ∧ (X.mg p.1 = some v ∨ (X.mg p.1 = none ∧ bootBuiltins p.1 = some v ∧ p.1 ≠ "__name__")) ∧ PySem.W.exmOne X.K (.ref C) v = some p.2.2 ∧ PySem.W.kitOne X.K (.ref C) v = some p.2.2 ∧ ExcC X.K C
  xf2 : ∀ (c : Nat) (fs : List Str), Z.xf[c]? = some fs → ∃ x, G.xc[c]? = some (x, fs)
/-- what a run of the text leans on -/
structure Gd (X : Cx) (Z : Ev) (G : Gi) (k : Nat) : Prop extends GdH X Z G where
  calm : X.calm = true
  nohx : Z.hx = none
  room : Room k X.A
  room2 : Room (k + 2) X.A
  fn : ∀ f x, G.fn[f]? = some x → ∃ a fd ps, X.mg x = some (.ref a) ∧ PySem.W.keepIn X.K (.ref a) = true ∧ Binds X.K fd ps [] ∧ FnOk X.prog X.w X.K X.mg X.base CX0 k a fd ps (spI X.K Z.cm Z.nm Z.cf ps.length f) ∧ ∀ ds s, ds.length ≠ ps.length → Z.cf f ds s = .no
  fnx : ∀ f x, G.fn[f]? = some x → ∃ a fd ps, X.mg x = some (.ref a) ∧ PySem.W.keepIn X.K (.ref a) = true ∧ Binds X.K fd ps [] ∧ FnOk X.prog X.w X.K X.mg X.base (L2.CX X.prog X.w) k a fd ps (spX X.K Z.cm Z.nm Z.xm Z.xf Z.cf ps.length f) ∧ ∀ ds s, ds.length ≠ ps.length → Z.cf f ds s = .no
  nms : Z.nm = G.nm
  cls : ∀ (c : Nat) (x : Str), G.cl[c]? = some x → ∃ C, Z.cm[c]? = some C ∧ X.mg x = some (.ref C) ∧ Mk0 X.K C
  mth : ∀ (c : Nat) (x : Str) (f : Nat), (c, x, f) ∈ G.mt → ∃ C a fd ps, Z.cm[c]? = some C ∧ Cls X.K C ∧ Meth X.K C x a ∧ Binds X.K fd ps [] ∧ FnOk X.prog X.w X.K X.mg X.base CX0 k a fd ps (spI X.K Z.cm Z.nm Z.cf ps.length f) ∧ ∀ ds s, ds.length ≠ ps.length → Z.cf f ds s = .no
  isi : ∀ (c : Nat) (x : Str) (b : Bool), (c, x, b) ∈ G.ic → ∃ C D, Z.cm[c]? = some C ∧ X.mg x = some (.ref D) ∧ InsT X.K C ∧ PySem.W.kitOne X.K (.ref C) (.ref D) = some b

section
variable {X : Cx} {Z : Ev} {G : Gi} {k : Nat}

theorem tR.bind {α β γ ζ : Type} {K : PySem.W.Frag} {R : Rel α β} {R' : Rel γ ζ} {f : Lcs → Sto → Re γ} {g : Lcs → γ → Sto → Re α} {σ : L2.St} {H : Hp} {Q : β → Hp → Prop} {Q1 : ζ → Hp → Prop} (an : Anti R)
    (h : tR K Z R (fun δ s => (f δ s).bind (g δ)) σ H Q)
    (k : ∀ δ c s1 b ρ1 F1 H1, StOk K Z.cm Z.nm ρ1 F1 H1 s1 → LocOk K Z.HX ρ1 F1 H1 σ δ → R' H ρ1 F1 H1 b c → Post K Z.cm Z.nm R (g δ c s1) ρ1 F1 H1 s1 Q → Q1 b H1) : tR K Z R' f σ H Q1 := by
  obtain ⟨δ, s, ρ, F, st, lo, po⟩ := h
  refine ⟨δ, s, ρ, F, st, lo, Post.bind an po fun c s1 b ρ1 F1 H1 e st1 r p => k δ c s1 b ρ1 F1 H1 st1 (lo.ext e) r p⟩

variable (g : GdH X Z G)
include g

/-! ### names and constants -/
theorem se_const {e : Expr} {v : V} {d : D} {m : ME} (h : PE X e (tC v)) (hm : ∀ δ s, evalE Z.cf m δ s = .ok d s) (r : ∀ ρ F, RepD X.K ρ F v d) : PE X e (tE X.K Z m) := h.conseq fun σ H Q q => by
  obtain ⟨δ, s, ρ, F, st, lo, po⟩ := q
  rw [hm] at po
  exact po.now st (r ρ F)
theorem se_var {i : Nat} {x : Str} {p : Pos} (hN : X.N[i]? = some x) (hv : Vis X.env.scope x) (h1 : (x == ("__debug__" : Str)) = false) (h2 : (x == ("__classdict__" : Str)) = false) : PE X (.Name x p) (tE X.K Z (.var i)) :=
  (pe_var hN hv h1 h2).conseq fun σ H Q q => by
    obtain ⟨δ, s, ρ, F, st, lo, po⟩ := q
    simp only [evalE] at po
    split at po
    · rename_i d hd
      obtain ⟨ω, l⟩ := id lo
      obtain ⟨v, h1, h2⟩ := l.dat i d hd
      exact ⟨v, h1, po.now st h2⟩
    · exact po.elim
theorem se_gc {x : Str} {d : D} {p : Pos} (hg : Gl X x) (hc : (x, d) ∈ G.cs) (h1 : (x == ("__debug__" : Str)) = false) : PE X (.Name x p) (tE X.K Z (.gc x d)) := by
  obtain ⟨u, v, hm, r, rr⟩ := g.cs _ hc
  exact se_const g (pe_glob hg hm r h1) (fun _ _ => by simp only [evalE]) rr

/-! ### operators -/
theorem se_bin {o : MB} {a b : ME} {x y : Expr} {p : Pos} (ha : PE X x (tE X.K Z a)) (hb : PE X y (tE X.K Z b)) : PE X (.BinOp x (opB o) y p) (tE X.K Z (.bin o a b)) := by
  obtain ⟨r, hr, hq⟩ := op_of (X := X) o
  refine (pe_op hr ha hb).conseq fun σ H Q q => ?_
  simp only [tE, evalE] at q
  refine tR.bind anti_RD q fun δ d s1 v ρ1 F1 H1 st1 lo1 r1 q1 => ?_
  refine ⟨δ, s1, ρ1, F1, st1, lo1, Post.bind anti_RD q1 fun e s2 w ρ2 F2 H2 e2 st2 r2 q2 => ?_⟩
  obtain ⟨z, hz, q3⟩ := Post.lift q2
  exact hq X.K ρ2 F2 d e z v w H2 Q hz (r1.mono e2.pre e2.froz) r2 fun v' rr => q3.now st2 (rr _ _ _)
theorem se_neg {a : ME} {x : Expr} {p : Pos} (ha : PE X x (tE X.K Z a)) : PE X (.UnaryOp .USub x p) (tE X.K Z (.neg a)) := by
  refine (pe_un un_neg ha).conseq fun σ H Q q => ?_
  simp only [tE, evalE] at q
  refine tR.bind anti_RD q fun δ d s1 v ρ1 F1 H1 st1 lo1 r1 q1 => ?_
  cases d <;> first | exact q1.elim | skip
  cases r1
  exact ⟨_, rfl, q1.now st1 (.int _)⟩
theorem se_cmp {o : MC} {a b : ME} {x y : Expr} {p : Pos} (hs : notSet y = true) (ha : PE X x (tE X.K Z a)) (hb : PE X y (tE X.K Z b)) : PE X (.Compare x [opC o] [y] p) (tE X.K Z (.cmp o a b)) := by
  obtain ⟨r, hr, hq⟩ := cmp_of g.hu o
  refine (pe_cmpR hr ha hb (behind_ hs)).conseq fun σ H Q q => ?_
  simp only [tE, evalE] at q
  refine tR.bind anti_RD q fun δ d s1 v ρ1 F1 H1 st1 lo1 r1 q1 => ?_
  refine ⟨δ, s1, ρ1, F1, st1, lo1, Post.bind anti_RD q1 fun e s2 w ρ2 F2 H2 e2 st2 r2 q2 => ?_⟩
  obtain ⟨z, hz, q3⟩ := Post.lift q2
  rw [Option.map_eq_some_iff] at hz
  obtain ⟨k', hk, rfl⟩ := hz
  exact hq Z.cm Z.nm ρ2 F2 H2 s2 d e k' v w Q st2 hk (r1.mono e2.pre e2.froz) r2 (q3.now st2 (.bl _))
theorem sq_cmp {o : MC} {a b : ME} {x y : Expr} {p : Pos} (hs : notSet y = true) (ha : PE X x (tE X.K Z a)) (hb : PE X y (tE X.K Z b)) : PT X (.Compare x [opC o] [y] p) (tQ X.K Z (.cmpQ o a b)) := by
  obtain ⟨r, hr, hq⟩ := cmp_of g.hu o
  refine (pt_cmpR hr ha hb (behind_ hs)).conseq fun σ H Q q => ?_
  simp only [tQ, evalT] at q
  refine tR.bind anti_RB q fun δ d s1 v ρ1 F1 H1 st1 lo1 r1 q1 => ?_
  refine ⟨δ, s1, ρ1, F1, st1, lo1, Post.bind anti_RB q1 fun e s2 w ρ2 F2 H2 e2 st2 r2 q2 => ?_⟩
  obtain ⟨k', hk, q3⟩ := Post.lift q2
  exact hq Z.cm Z.nm ρ2 F2 H2 s2 d e k' v w _ st2 hk (r1.mono e2.pre e2.froz) r2 ⟨k', rfl, q3.now st2 rfl⟩
theorem se_chain {o o' : MC} {a b c : ME} {x y z : Expr} {p : Pos} (hs : notSet z = true) (ha : PE X x (tE X.K Z a)) (hb : PE X y (tE X.K Z b)) (hc : PE X z (tE X.K Z c)) :
    PE X (.Compare x [opC o, opC o'] [y, z] p) (tE X.K Z (.chain o o' a b c)) := by
  obtain ⟨r, hr, hq⟩ := cmp_of g.hu o
  obtain ⟨r', hr', hq'⟩ := cmp_of g.hu o'
  refine (pe_chain hr hr' ha hb hc (show behindInMarks (opC o') z = false from behind_ hs)).conseq fun σ H Q q => ?_
  simp only [tE, evalE] at q
  refine tR.bind anti_RD q fun δ d s1 v ρ1 F1 H1 st1 lo1 r1 q1 => ?_
  refine ⟨δ, s1, ρ1, F1, st1, lo1, Post.bind anti_RD q1 fun e s2 w ρ2 F2 H2 e2 st2 r2 q2 => ?_⟩
  obtain ⟨k', hk, q3⟩ : ∃ k', cmpD o s2 d e = some k' ∧ Post X.K Z.cm Z.nm (RD X.K) (if k' = true then (evalE Z.cf c δ s2).bind fun z s4 => lift ((cmpD o' s4 e z).map .bl) s4 else .ok (.bl false) s2) ρ2 F2 H2 s2 Q := by
    cases hk : cmpD o s2 d e with
    | none => rw [hk] at q2; exact q2.elim
    | some k' => rw [hk] at q2; exact ⟨k', rfl, q2⟩
  refine hq Z.cm Z.nm ρ2 F2 H2 s2 d e k' v w _ st2 hk (r1.mono e2.pre e2.froz) r2 ⟨k', rfl, ?_⟩
  cases k' with
  | false =>
    rw [if_neg Bool.false_ne_true] at q3 ⊢
    exact q3.now st2 (.bl _)
  | true =>
    rw [if_pos rfl] at q3 ⊢
    refine ⟨δ, s2, ρ2, F2, st2, lo1.ext e2, Post.bind anti_RD q3 fun f s3 u ρ3 F3 H3 e3 st3 r3 q4 => ?_⟩
    obtain ⟨z, hz, q5⟩ := Post.lift q4
    rw [Option.map_eq_some_iff] at hz
    obtain ⟨k2, hk2, rfl⟩ := hz
    exact hq' Z.cm Z.nm ρ3 F3 H3 s3 e f k2 w u Q st3 hk2 (r2.mono e3.pre e3.froz) r3 (q5.now st3 (.bl _))
theorem sq_chain {o o' : MC} {a b c : ME} {x y z : Expr} {p : Pos} (hs : notSet z = true) (ha : PE X x (tE X.K Z a)) (hb : PE X y (tE X.K Z b)) (hc : PE X z (tE X.K Z c)) :
    PT X (.Compare x [opC o, opC o'] [y, z] p) (tQ X.K Z (.chainQ o o' a b c)) := by
  obtain ⟨r, hr, hq⟩ := cmp_of g.hu o
  obtain ⟨r', hr', hq'⟩ := cmp_of g.hu o'
  refine (pt_chain hr hr' ha hb hc (show behindInMarks (opC o') z = false from behind_ hs)).conseq fun σ H Q q => ?_
  simp only [tQ, evalT] at q
  refine tR.bind anti_RB q fun δ d s1 v ρ1 F1 H1 st1 lo1 r1 q1 => ?_
  refine ⟨δ, s1, ρ1, F1, st1, lo1, Post.bind anti_RB q1 fun e s2 w ρ2 F2 H2 e2 st2 r2 q2 => ?_⟩
  obtain ⟨k', hk, q3⟩ : ∃ k', cmpD o s2 d e = some k' ∧ Post X.K Z.cm Z.nm RB (if k' = true then (evalE Z.cf c δ s2).bind fun z s4 => lift (cmpD o' s4 e z) s4 else .ok false s2) ρ2 F2 H2 s2 Q := by
    cases hk : cmpD o s2 d e with
    | none => rw [hk] at q2; exact q2.elim
    | some k' => rw [hk] at q2; exact ⟨k', rfl, q2⟩
  refine hq Z.cm Z.nm ρ2 F2 H2 s2 d e k' v w _ st2 hk (r1.mono e2.pre e2.froz) r2 ⟨k', rfl, ?_⟩
  cases k' with
  | false =>
    rw [if_neg Bool.false_ne_true] at q3 ⊢
    exact ⟨false, rfl, q3.now st2 rfl⟩
  | true =>
    rw [if_pos rfl] at q3 ⊢
    refine ⟨δ, s2, ρ2, F2, st2, lo1.ext e2, Post.bind anti_RB q3 fun f s3 u ρ3 F3 H3 e3 st3 r3 q4 => ?_⟩
    obtain ⟨k2, hk2, q5⟩ := Post.lift q4
    exact hq' Z.cm Z.nm ρ3 F3 H3 s3 e f k2 w u _ st3 hk2 (r2.mono e3.pre e3.froz) r3 ⟨k2, rfl, q5.now st3 rfl⟩

/-! ### and, or, not, if -/
theorem sand_one {m : ME} {e : Expr} {p : Pos} (h : PE X e (tE X.K Z m)) : PE X (.BoolOp .And [e] p) (tAnd X.K Z (.cons m .nil)) := (pe_one h).conseq fun σ H Q q => by
  simp only [tAnd, evalAnd] at q; exact q
theorem sor_one {m : ME} {e : Expr} {p : Pos} (h : PE X e (tE X.K Z m)) : PE X (.BoolOp .Or [e] p) (tOr X.K Z (.cons m .nil)) := (pe_one h).conseq fun σ H Q q => by
  simp only [tOr, evalOr] at q; exact q
theorem sand_cons {m : ME} {ms : MEs} {e f : Expr} {es : List Expr} {p : Pos} (hn : ms ≠ .nil) (h : PE X e (tE X.K Z m)) (h' : PE X (.BoolOp .And (f :: es) p) (tAnd X.K Z ms)) : PE X (.BoolOp .And (e :: f :: es) p) (tAnd X.K Z (.cons m ms)) :=
  (pe_andT h h').conseq fun σ H Q q => by
    have ev : ∀ δ s, evalAnd Z.cf (.cons m ms) δ s = (evalE Z.cf m δ s).bind fun x s1 => (lift (truth s1 x) s1).bind fun k s2 => if k = true then evalAnd Z.cf ms δ s2 else .ok x s2 := fun δ s => by
      cases ms with
      | nil => exact absurd rfl hn
      | cons a b => simp only [evalAnd]
    obtain ⟨δ, s, ρ, F, st, lo, po⟩ := q
    rw [ev] at po
    refine ⟨δ, s, ρ, F, st, lo, Post.bind anti_RD po fun d s1 v ρ1 F1 H1 e1 st1 r1 q1 => ?_⟩
    obtain ⟨b, hb, q2⟩ := Post.lift_bind q1
    refine ⟨b, tru_of st1 r1 hb, ?_⟩
    cases b with
    | true => rw [if_pos rfl] at q2 ⊢; exact ⟨δ, s1, ρ1, F1, st1, lo.ext e1, q2⟩
    | false => rw [if_neg Bool.false_ne_true] at q2 ⊢; exact q2.now st1 r1
theorem sor_cons {m : ME} {ms : MEs} {e f : Expr} {es : List Expr} {p : Pos} (hn : ms ≠ .nil) (h : PE X e (tE X.K Z m)) (h' : PE X (.BoolOp .Or (f :: es) p) (tOr X.K Z ms)) : PE X (.BoolOp .Or (e :: f :: es) p) (tOr X.K Z (.cons m ms)) :=
  (pe_orT h h').conseq fun σ H Q q => by
    have ev : ∀ δ s, evalOr Z.cf (.cons m ms) δ s = (evalE Z.cf m δ s).bind fun x s1 => (lift (truth s1 x) s1).bind fun k s2 => if k = true then .ok x s2 else evalOr Z.cf ms δ s2 := fun δ s => by
      cases ms with
      | nil => exact absurd rfl hn
      | cons a b => simp only [evalOr]
    obtain ⟨δ, s, ρ, F, st, lo, po⟩ := q
    rw [ev] at po
    refine ⟨δ, s, ρ, F, st, lo, Post.bind anti_RD po fun d s1 v ρ1 F1 H1 e1 st1 r1 q1 => ?_⟩
    obtain ⟨b, hb, q2⟩ := Post.lift_bind q1
    refine ⟨b, tru_of st1 r1 hb, ?_⟩
    cases b with
    | true => rw [if_pos rfl] at q2 ⊢; exact q2.now st1 r1
    | false => rw [if_neg Bool.false_ne_true] at q2 ⊢; exact ⟨δ, s1, ρ1, F1, st1, lo.ext e1, q2⟩
theorem sandT_one {m : MQ} {e : Expr} {p : Pos} (h : PT X e (tQ X.K Z m)) : PW X (.BoolOp .And [e] p) (tAndT X.K Z (.cons m .nil)) := ⟨fun wh pins s σ H Q I q => (pw_and1 h).run wh pins s σ H Q I (by simp only [tAndT, evalAndT] at q; exact q)⟩
theorem sorT_one {m : MQ} {e : Expr} {p : Pos} (h : PT X e (tQ X.K Z m)) : PW X (.BoolOp .Or [e] p) (tOrT X.K Z (.cons m .nil)) := ⟨fun wh pins s σ H Q I q => (pw_or1 h).run wh pins s σ H Q I (by simp only [tOrT, evalOrT] at q; exact q)⟩
theorem sandT_cons {m : MQ} {ms : MQs} {e f : Expr} {es : List Expr} {p : Pos} (hn : ms ≠ .nil) (h : PT X e (tQ X.K Z m)) (h' : PW X (.BoolOp .And (f :: es) p) (tAndT X.K Z ms)) : PW X (.BoolOp .And (e :: f :: es) p) (tAndT X.K Z (.cons m ms)) :=
  ⟨fun wh pins s σ H Q I q => (pw_and h h').run wh pins s σ H Q I (by
    have ev : ∀ δ s, evalAndT Z.cf (.cons m ms) δ s = (evalT Z.cf m δ s).bind fun x s1 => if x = true then evalAndT Z.cf ms δ s1 else .ok false s1 := fun δ s => by
      cases ms with
      | nil => exact absurd rfl hn
      | cons a b => simp only [evalAndT]
    obtain ⟨δ, s, ρ, F, st, lo, po⟩ := q
    rw [ev] at po
    refine ⟨δ, s, ρ, F, st, lo, Post.bind anti_RB po fun d s1 v ρ1 F1 H1 e1 st1 r1 q1 => ?_⟩
    cases r1
    cases d with
    | true => rw [if_pos rfl] at q1 ⊢; exact ⟨δ, s1, ρ1, F1, st1, lo.ext e1, q1⟩
    | false => rw [if_neg Bool.false_ne_true] at q1 ⊢; exact q1.now st1 rfl)⟩
theorem sorT_cons {m : MQ} {ms : MQs} {e f : Expr} {es : List Expr} {p : Pos} (hn : ms ≠ .nil) (h : PT X e (tQ X.K Z m)) (h' : PW X (.BoolOp .Or (f :: es) p) (tOrT X.K Z ms)) : PW X (.BoolOp .Or (e :: f :: es) p) (tOrT X.K Z (.cons m ms)) :=
  ⟨fun wh pins s σ H Q I q => (pw_or h h').run wh pins s σ H Q I (by
    have ev : ∀ δ s, evalOrT Z.cf (.cons m ms) δ s = (evalT Z.cf m δ s).bind fun x s1 => if x = true then .ok true s1 else evalOrT Z.cf ms δ s1 := fun δ s => by
      cases ms with
      | nil => exact absurd rfl hn
      | cons a b => simp only [evalOrT]
    obtain ⟨δ, s, ρ, F, st, lo, po⟩ := q
    rw [ev] at po
    refine ⟨δ, s, ρ, F, st, lo, Post.bind anti_RB po fun d s1 v ρ1 F1 H1 e1 st1 r1 q1 => ?_⟩
    cases r1
    cases d with
    | true => rw [if_pos rfl] at q1 ⊢; exact q1.now st1 rfl
    | false => rw [if_neg Bool.false_ne_true] at q1 ⊢; exact ⟨δ, s1, ρ1, F1, st1, lo.ext e1, q1⟩)⟩
theorem sq_not {m : MQ} {e : Expr} {p : Pos} (h : PT X e (tQ X.K Z m)) : PT X (.UnaryOp .Not e p) (tQ X.K Z (.notQ m)) := (pt_not h).conseq fun σ H Q q => by
  simp only [tQ, evalT] at q
  exact tR.bind anti_RB q fun δ d s1 v ρ1 F1 H1 st1 lo1 r1 q1 => by cases r1; exact q1.now st1 rfl
theorem se_not {m : ME} {e : Expr} {p : Pos} (h : PE X e (tE X.K Z m)) : PE X (.UnaryOp .Not e p) (tE X.K Z (.notE m)) := (pe_notT h).conseq fun σ H Q q => by
  simp only [tE, evalE] at q
  refine tR.bind anti_RD q fun δ d s1 v ρ1 F1 H1 st1 lo1 r1 q1 => ?_
  obtain ⟨z, hz, q2⟩ := Post.lift q1
  rw [Option.map_eq_some_iff] at hz
  obtain ⟨k', hk, rfl⟩ := hz
  exact ⟨k', tru_of st1 r1 hk, q2.now st1 (.bl _)⟩
theorem sq_val {m : ME} {e : Expr} (hp : plainTest e = true) (h : PE X e (tE X.K Z m)) : PT X e (tQ X.K Z (.val m)) := (pt_truth h (test_ hp X.env)).conseq fun σ H Q q => by
  simp only [tQ, evalT] at q
  refine tR.bind anti_RB q fun δ d s1 v ρ1 F1 H1 st1 lo1 r1 q1 => ?_
  obtain ⟨k', hk, q2⟩ := Post.lift q1
  exact ⟨k', tru_of st1 r1 hk, q2.now st1 rfl⟩
theorem se_ife {c : MQ} {a b : ME} {t x y : Expr} {p : Pos} (hc : PT X t (tQ X.K Z c)) (ha : PE X x (tE X.K Z a)) (hb : PE X y (tE X.K Z b)) : PE X (.IfExp t x y p) (tE X.K Z (.ife c a b)) := (pe_ifExp hc ha hb).conseq fun σ H Q q => by
  simp only [tE, evalE] at q
  refine tR.bind anti_RD q fun δ d s1 v ρ1 F1 H1 st1 lo1 r1 q1 => ?_
  cases r1
  cases d with
  | true => rw [if_pos rfl] at q1 ⊢; exact ⟨δ, s1, ρ1, F1, st1, lo1, q1⟩
  | false => rw [if_neg Bool.false_ne_true] at q1 ⊢; exact ⟨δ, s1, ρ1, F1, st1, lo1, q1⟩

/-! ### argument lists, displays -/
theorem sa_nil : PA X [] (tEs X.K Z .nil) := pa_nil.conseq fun σ H Q q => by
  obtain ⟨δ, s, ρ, F, st, lo, po⟩ := q
  simp only [evalEs] at po
  exact po.now st .nil
theorem sa_cons {m : ME} {ms : MEs} {e : Expr} {es : List Expr} (hn : notStar e = true) (h : PE X e (tE X.K Z m)) (h' : PA X es (tEs X.K Z ms)) : PA X (e :: es) (tEs X.K Z (.cons m ms)) := (pa_cons h h' (starEach_ hn es X.env)).conseq fun σ H Q q => by
  simp only [tEs, evalEs] at q
  refine tR.bind anti_RL q fun δ d s1 v ρ1 F1 H1 st1 lo1 r1 q1 => ?_
  refine ⟨δ, s1, ρ1, F1, st1, lo1, Post.bind anti_RL q1 fun ds s2 vs ρ2 F2 H2 e2 st2 r2 q2 => ?_⟩
  exact q2.now st2 (.cons (r1.mono e2.pre e2.froz) r2)
theorem se_tup {ms : MEs} {es : List Expr} {j : Nat} {p : Pos} (h : PA X es (tEs X.K Z ms)) : PE X (.Tuple es j p) (tE X.K Z (.tup ms)) := (pe_tup h).conseq fun σ H Q q => by
  simp only [tE, evalE] at q
  refine tR.bind anti_RD q fun δ ds s1 vs ρ1 F1 H1 st1 lo1 r1 q1 => ?_
  split at q1
  · rename_i hl
    refine ⟨by rw [r1.length, ← line_eq]; exact hl, fun p hp => q1.fresh st1 hp (.tup (SqT.of upd_same) (r1.mono (List.prefix_refl _) fun b u hb => ?_))⟩
    rw [upd_ne (ne_of_none hb (st1.noF hp))]; exact hb
  · exact q1.elim
theorem sf_lst {ms : MEs} {es : List Expr} {p : Pos} (h : PA X es (tEs X.K Z ms)) : PE X (.List es p) (tF X.K Z (.lst ms)) := (pe_lst h).conseq fun σ H Q q => by
  simp only [tF, evalF] at q
  refine tR.bind anti_RO q fun δ ds s1 vs ρ1 F1 H1 st1 lo1 r1 q1 => ?_
  split at q1
  · rename_i hl
    exact ⟨by rw [r1.length, ← line_eq]; exact hl, fun p hp => q1.owned st1 hp r1⟩
  · exact q1.elim
/-- a list of one's own, frozen -/
theorem se_fz {f : MF} {e : Expr} (h : PE X e (tF X.K Z f)) : PE X e (tE X.K Z (.fz f)) := h.conseq fun σ H Q q => by
  simp only [tE, evalE] at q
  obtain ⟨δ, s, ρ, F, st, lo, po⟩ := q
  refine ⟨δ, s, ρ, F, st, lo, ?_⟩
  dsimp only at po
  cases hr : evalF Z.cf f δ s with
  | no => rw [hr] at po; exact po
  | ex x s => rw [hr] at po; exact po
  | ok o s1 =>
    rw [hr] at po
    intro b ρ' F' H' e' st' rr
    cases o with
    | v d => exact po b ρ' F' H' e' st' rr
    | l xs =>
      obtain ⟨p, vs, rfl, h1, h2, h3, h4, h5⟩ := rr
      have sm : Same F' (upd F' p (.lst vs)) := fun b u hb => by rw [upd_ne (ne_of_none hb h3)]; exact hb
      exact po (.ref p) ρ' (upd F' p (.lst vs)) H' (e'.freeze h3 h5) (st'.freeze h1 h3 h4) (.lst (SqL.of upd_same) (h2.mono (List.prefix_refl _) sm))
    | x c vs => exact rr.elim
end
end Mn
set_option Elab.async false
set_option linter.all false
set_option maxRecDepth 100000
set_option maxHeartbeats 4000000
/-! The small language is sound: subscripts, built-ins, calls. -/
namespace Mn
open PySem L2 PyProof.Rows
section
variable {X : Cx} {Z : Ev} {G : Gi} {k : Nat} (g : Gd X Z G k)
include g

theorem se_idx {a b : ME} {x y : Expr} {p : Pos} (hs : plainIx y = true) (ha : PE X x (tE X.K Z a)) (hb : PE X y (tE X.K Z b)) : PE X (.Subscript x y p) (tE X.K Z (.idx a b)) := by
  obtain ⟨r, hr, hq⟩ := ix_of (X := X)
  refine (pe_ix hr ha hb (plainIx_ hs)).conseq fun σ H Q q => ?_
  simp only [tE, evalE] at q
  refine tR.bind anti_RD q fun δ d s1 v ρ1 F1 H1 st1 lo1 r1 q1 => ?_
  refine ⟨δ, s1, ρ1, F1, st1, lo1, Post.bind anti_RD q1 fun e s2 w ρ2 F2 H2 e2 st2 r2 q2 => ?_⟩
  obtain ⟨z, hz, q3⟩ := Post.lift q2
  exact hq Z.cm Z.nm ρ2 F2 H2 s2 d e z v w Q st2 hz (r1.mono e2.pre e2.froz) r2 fun v' rr => q3.now st2 rr
theorem sp_none : PO X none (tP X.K Z .none) := ⟨fun pins s σ H Q I q => po_none.run pins s σ H Q I (by
  obtain ⟨δ, s, ρ, F, st, lo, po⟩ := q
  simp only [evalP] at po
  exact po.now st rfl)⟩
theorem sp_some {m : ME} {e : Expr} (h : PE X e (tE X.K Z m)) : PO X (some e) (tP X.K Z (.some m)) := ⟨fun pins s σ H Q I q => (po_some h).run pins s σ H Q I (by
  simp only [tP, evalP] at q
  refine tR.bind anti_RP q fun δ d s1 v ρ1 F1 H1 st1 lo1 r1 q1 => ?_
  cases d <;> first | exact q1.elim | skip
  cases r1
  exact ⟨_, rfl, q1.now st1 rfl⟩)⟩
theorem se_cutS {a : ME} {lo hi : MO} {x : Expr} {l h : Option Expr} {p p2 : Pos} (ha : PE X x (tE X.K Z a)) (hl : PO X l (tP X.K Z lo)) (hh : PO X h (tP X.K Z hi)) : PE X (.Subscript x (.Slice l h none p2) p) (tE X.K Z (.cutS a lo hi)) := by
  refine (pe_slice sl_str ha hl hh).conseq fun σ H Q q => ?_
  simp only [tE, evalE] at q
  refine tR.bind anti_RD q fun δ d s1 v ρ1 F1 H1 st1 lo1 r1 q1 => ?_
  refine ⟨δ, s1, ρ1, F1, st1, lo1, Post.bind anti_RD q1 fun i s2 i' ρ2 F2 H2 e2 st2 r2 q2 => ?_⟩
  refine ⟨δ, s2, ρ2, F2, st2, lo1.ext e2, Post.bind anti_RD q2 fun j s3 j' ρ3 F3 H3 e3 st3 r3 q3 => ?_⟩
  obtain ⟨z, hz, q4⟩ := Post.lift q3
  cases r2; cases r3
  unfold cutSD at hz
  split at hz
  · rename_i w
    cases r1
    split at hz
    · rename_i hl
      cases hz
      refine ⟨_, rfl, by rw [str_len, ← line_eq]; exact hl, ?_⟩
      rw [cutS_str]
      exact q4.now st3 (.str _)
    · cases hz
  · cases hz
theorem sf_cutL {a : ME} {lo hi : MO} {x : Expr} {l h : Option Expr} {p p2 : Pos} (ha : PE X x (tE X.K Z a)) (hl : PO X l (tP X.K Z lo)) (hh : PO X h (tP X.K Z hi)) : PE X (.Subscript x (.Slice l h none p2) p) (tF X.K Z (.cutL a lo hi)) := by
  refine (pe_slice sl_list ha hl hh).conseq fun σ H Q q => ?_
  simp only [tF, evalF] at q
  refine tR.bind anti_RO q fun δ d s1 v ρ1 F1 H1 st1 lo1 r1 q1 => ?_
  refine ⟨δ, s1, ρ1, F1, st1, lo1, Post.bind anti_RO q1 fun i s2 i' ρ2 F2 H2 e2 st2 r2 q2 => ?_⟩
  refine ⟨δ, s2, ρ2, F2, st2, lo1.ext e2, Post.bind anti_RO q2 fun j s3 j' ρ3 F3 H3 e3 st3 r3 q3 => ?_⟩
  cases r2; cases r3
  split at q3
  · rename_i xs hx
    obtain ⟨a', vs, rfl, h1, h2⟩ := list_of st3 ((r1.mono e2.pre e2.froz).mono e3.pre e3.froz) hx
    exact ⟨a', vs, rfl, h1, fun p hp => q3.owned st3 hp (h2.cut _ _)⟩
  · exact q3.elim
theorem sf_rev {a : ME} {x : Expr} {j : Nat} {p1 p2 p3 p : Pos} (ha : PE X x (tE X.K Z a)) : PE X (.Subscript x (.Slice none none (some (.UnaryOp .USub (.Constant (.int 1) j p1) p2)) p3) p) (tF X.K Z (.rev a)) := by
  refine (pe_revL ha).conseq fun σ H Q q => ?_
  simp only [tF, evalF] at q
  refine tR.bind anti_RO q fun δ d s1 v ρ1 F1 H1 st1 lo1 r1 q1 => ?_
  split at q1
  · rename_i xs hx
    obtain ⟨a', vs, rfl, h1, h2⟩ := list_of st1 r1 hx
    exact ⟨a', vs, rfl, h1, fun p hp => q1.owned st1 hp h2.reverse⟩
  · exact q1.elim
omit g in
theorem op_catP : OpR X (binaryOp .Add) (fun x y H Q => ∃ l b xs zs, x = .ref l ∧ y = .ref b ∧ SqL X.K H l xs ∧ SqL X.K H b zs ∧ xs.length + zs.length ≤ sizeLine ∧ ∀ p, H p = none → Q (.ref p) (upd H p (.lst (xs ++ zs)))) := by
  intro pins s σ H x y v u Q I rx ry h
  obtain ⟨l, b, xs, zs, rfl, rfl, hx, hy, hz, q⟩ := h
  cases rx
  cases ry
  obtain ⟨its, r, hl, _⟩ := I.list hx
  obtain ⟨its2, r2, hb, _⟩ := I.list hy
  obtain ⟨⟨cls, dd, data, sl⟩, n, ho, hc, _, hd⟩ := hl
  obtain ⟨⟨cls2, dd2, data2, sl2⟩, n2, ho2, hc2, _, hd2⟩ := hb
  simp only at hc hd hc2 hd2
  subst hc hd hc2 hd2
  have e : its.toArray ++ its2.toArray = (its ++ its2).toArray := by simp
  have l1 := r.length
  have l2 := r2.length
  refine concat_meets ⟨_, ho, rfl⟩ ⟨_, ho2, rfl⟩ noFill_list_add seq_list_add PySem.F.slot_list_add PySem.F.entry_list_add (PySem.F.args_list_add_2 _ _) (list_addW l b its.toArray its2.toArray n n2 dd dd2 sl sl2 (by simp only [List.size_toArray]; omega)) ⟨ho, ho2, ?_⟩
  rw [e]
  exact ⟨.ref _, _, I.lnew (t' := s.toks) (r.append r2) (by rw [List.length_append]; omega), rfl, q _ I.fresh⟩
omit g in
theorem sf_cat {a b : ME} {x y : Expr} {p : Pos} (ha : PE X x (tE X.K Z a)) (hb : PE X y (tE X.K Z b)) : PE X (.BinOp x .Add y p) (tF X.K Z (.cat a b)) := by
  refine (pe_op op_catP ha hb).conseq fun σ H Q q => ?_
  simp only [tF, evalF] at q
  refine tR.bind anti_RO q fun δ d s1 v ρ1 F1 H1 st1 lo1 r1 q1 => ?_
  refine ⟨δ, s1, ρ1, F1, st1, lo1, Post.bind anti_RO q1 fun e s2 w ρ2 F2 H2 e2 st2 r2 q2 => ?_⟩
  split at q2
  · rename_i xs ys hx hy
    split at q2
    · rename_i hl
      obtain ⟨a1, vs, rfl, h1, h2⟩ := list_of st2 (r1.mono e2.pre e2.froz) hx
      obtain ⟨a2, ws, rfl, h3, h4⟩ := list_of st2 r2 hy
      exact ⟨a1, a2, vs, ws, rfl, rfl, h1, h3, by rw [h2.length, h4.length, ← line_eq]; exact hl, fun p hp => q2.owned st2 hp (h2.append h4)⟩
    · exact q2.elim
  · exact q2.elim
omit g in
theorem RepL.rep {K : PySem.W.Frag} {ρ : List Addr} {F : Hp} {vs : List V} {ds : List D} (h : RepL K ρ F vs ds) : ∀ n : Nat, RepL K ρ F (List.replicate n vs).flatten (List.replicate n ds).flatten
  | 0 => .nil
  | n + 1 => by
    rw [List.replicate_succ, List.replicate_succ, List.flatten_cons, List.flatten_cons]
    exact h.append (RepL.rep h n)
theorem sf_rep {a : MF} {b : ME} {x y : Expr} {p : Pos} (ha : PE X x (tF X.K Z a)) (hb : PE X y (tE X.K Z b)) : PE X (.BinOp x .Mult y p) (tF X.K Z (.rep a b)) := by
  refine (pe_op op_rep ha hb).conseq fun σ H Q q => ?_
  simp only [tF, evalF] at q
  refine tR.bind anti_RO q fun δ d s1 v ρ1 F1 H1 st1 lo1 r1 q1 => ?_
  refine ⟨δ, s1, ρ1, F1, st1, lo1, Post.bind anti_RO q1 fun e s2 w ρ2 F2 H2 e2 st2 r2 q2 => ?_⟩
  split at q2
  · rename_i xs j
    split at q2
    · rename_i hl
      obtain ⟨p, vs, rfl, h1, h2, h3, h4, h5⟩ := r1
      cases r2
      refine ⟨p, j, vs, rfl, rfl, e2.keep _ _ h1 h4, by omega, by omega, by rw [h2.length, ← line_eq]; exact hl.2.2, fun p' hp => q2.owned st2 hp ((h2.mono e2.pre e2.froz).rep _)⟩
    · exact q2.elim
  · exact q2.elim

theorem sf_repE {a b : ME} {x y : Expr} {p : Pos} (ha : PE X x (tE X.K Z a)) (hb : PE X y (tE X.K Z b)) : PE X (.BinOp x .Mult y p) (tF X.K Z (.repE a b)) := by
  refine (pe_op op_repLs ha hb).conseq fun σ H Q q => ?_
  simp only [tF, evalF] at q
  refine tR.bind anti_RO q fun δ d s1 v ρ1 F1 H1 st1 lo1 r1 q1 => ?_
  refine ⟨δ, s1, ρ1, F1, st1, lo1, Post.bind anti_RO q1 fun e s2 w ρ2 F2 H2 e2 st2 r2 q2 => ?_⟩
  split at q2
  · rename_i xs j hx
    split at q2
    · rename_i hl
      obtain ⟨a1, vs, rfl, h1, h2⟩ := list_of st2 (r1.mono e2.pre e2.froz) hx
      cases r2
      exact ⟨a1, j, vs, rfl, rfl, h1, by omega, by omega, by rw [h2.length, ← line_eq]; exact hl.2.2, fun p' hp => q2.owned st2 hp (h2.rep _)⟩
    · exact q2.elim
  · exact q2.elim

/-! ### a list of one's own, lent -/
theorem se_peek {i : Nat} {m : ME} {e : Expr} (h : PE X e (tE X.K Z m)) : PE X e (tE X.K Z (.peek i m)) := h.conseq fun σ H Q q => by
  obtain ⟨δ, s, ρ, F, st, lo, po⟩ := q
  simp only [evalE] at po
  split at po
  · rename_i xs hx
    obtain ⟨ω, l⟩ := id lo
    obtain ⟨h1, ⟨vs, h2, h3⟩, h4, h5, h6⟩ := l.own i xs hx
    have sm : Same F (upd F (ω i) (.lst vs)) := fun b u hb => by rw [upd_ne (ne_of_none hb h4)]; exact hb
    have st' : StOk X.K Z.cm Z.nm ρ (upd F (ω i) (.lst vs)) H s := st.freeze h2 h4 h5
    have hi : i < δ.length := (List.getElem?_eq_some_iff.mp hx).1
    have lo' : LocOk X.K Z.HX ρ (upd F (ω i) (.lst vs)) H σ (δ.set i (some (.v (.lst xs)))) := by
      have hσ : σ.set i (some (.ref (ω i))) = σ := by
        apply List.ext_getElem?
        intro j
        by_cases q : i = j
        · subst q
          rw [List.getElem?_set_self (by rw [← l.len]; exact hi), h1]
        · rw [List.getElem?_set_ne q]
      rw [← hσ]
      have base : LocOk X.K Z.HX ρ (upd F (ω i) (.lst vs)) H σ (δ.set i none) := by
        have nq : ∀ (k : Nat) (o : O), (δ.set i none)[k]? = some (some o) → i ≠ k ∧ δ[k]? = some (some o) := fun k o h => by
          by_cases q : i = k
          · subst q
            rw [List.getElem?_set_self hi] at h
            cases h
          · rw [List.getElem?_set_ne q] at h
            exact ⟨q, h⟩
        refine ⟨ω, by simpa using l.len, fun j d h => ?_, fun j ys h => ?_, fun j c ys h => let ⟨q, b1, b0, b2, b3, b4, b5⟩ := l.exo j c ys (nq _ _ h).2; ⟨q, b1, b0, b2, b3, b4, b5.frz sm⟩, fun j j' ys zs h h' => l.one j j' ys zs (nq _ _ h).2 (nq _ _ h').2⟩
        · obtain ⟨v, a1, a2⟩ := l.dat j d (nq _ _ h).2
          exact ⟨v, a1, a2.mono (List.prefix_refl _) sm⟩
        · obtain ⟨a1, ⟨ws, a2, a3⟩, a4, a5, a6⟩ := l.own j ys (nq _ _ h).2
          have ne : ω j ≠ ω i := fun z => (nq _ _ h).1 (l.one j i ys xs (nq _ _ h).2 hx z).symm
          exact ⟨a1, ⟨ws, a2, a3.mono (List.prefix_refl _) sm⟩, by rw [upd_ne ne]; exact a4, a5, a6⟩
      have e1 : (δ.set i none).set i (some (.v (.lst xs))) = δ.set i (some (.v (.lst xs))) := by rw [List.set_set]
      rw [← e1]
      exact base.put i (.lst (SqL.of upd_same) (h3.mono (List.prefix_refl _) sm))
    refine ⟨_, s, ρ, _, st', lo', ?_⟩
    cases hr : evalE Z.cf m (δ.set i (some (.v (.lst xs)))) s with
    | no => rw [hr] at po; exact po.elim
    | ex x s1 => rw [hr] at po; exact po.elim
    | ok d s1 =>
      rw [hr] at po
      dsimp only at po
      split at po
      · rename_i hc
        obtain ⟨rfl, hd⟩ := hc
        intro b ρ' F' H' e' stE rr
        -- nothing of what was made is kept
        have keepH : ∀ c o, H c = some o → H' c = some o := e'.still rfl
        refine po b ρ F H' ⟨List.prefix_refl _, Same.refl _, Nat.le_refl _, fun c o hc _ => keepH c o hc, fun _ c o hc => keepH c o hc, fun c o hc => ⟨o, keepH c o hc⟩, fun c o hc => .inl hc, fun c hc => .inl hc⟩
          ⟨fun c o hc => keepH c o (st.sub c o hc), st.len, fun n a c hn hs => ?_, st.off, st.nd⟩ ?_
        · obtain ⟨o, q1, q2⟩ := st.cell n a c hn hs
          exact ⟨o, keepH a o q1, q2⟩
        · have rr : RepD X.K ρ' F' b d := rr
          cases rr <;> first | exact .non | exact .bl _ | exact .int _ | exact .str _ | cases hd
      · exact po.elim
  · exact po.elim

/-- a list of one's own, asked at a place that is reckoned by calls -/
theorem se_peekI {i : Nat} {m : ME} {z : Str} {y : Expr} {p q : Pos} (hs : plainIx y = true) (hN : X.N[i]? = some z) (hv : Vis X.env.scope z) (h1 : (z == ("__debug__" : Str)) = false) (h2 : (z == ("__classdict__" : Str)) = false) (h : PE X y (tE X.K Z m)) :
    PE X (.Subscript (.Name z p) y q) (tE X.K Z (.peekI i m)) := by
  obtain ⟨r, hr, hq⟩ := ix_of (X := X)
  refine (pe_ix hr (pe_var hN hv h1 h2) h (plainIx_ hs)).conseq fun σ H Q q => ?_
  obtain ⟨δ, s, ρ, F, st, lo, po⟩ := q
  simp only [evalE] at po
  have hd : ∃ xs, δ[i]? = some (some (.l xs)) := by
    cases hr' : evalE Z.cf m δ s with
    | no => rw [hr'] at po; exact po.elim
    | ex _ _ => rw [hr'] at po; exact po.elim
    | ok d s1 =>
      rw [hr'] at po
      simp only [Re.bind_ok] at po
      split at po
      · rename_i xs hx; exact ⟨xs, hx⟩
      · exact po.elim
  obtain ⟨xs, hx⟩ := hd
  obtain ⟨ω, l⟩ := id lo
  obtain ⟨a1, ⟨vs0, a2, a3⟩, a4, a5, a6⟩ := l.own i xs hx
  refine ⟨_, a1, δ, s, ρ, F, st, lo, Post.bind anti_RD po fun y' s1 w ρ1 F1 H1 e1 st1 r1 q1 => ?_⟩
  simp only [hx] at q1
  split at q1
  · rename_i d hd
    split at q1
    · rename_i hsc
      obtain ⟨ω1, l1⟩ := lo.ext e1
      have hH1 : H1 (ω i) = some (.lst vs0) := e1.keep _ _ a2 a5
      have hF1 : F1 (ω i) = none := by
        cases q : F1 (ω i) with
        | none => rfl
        | some u =>
          rcases e1.newF _ _ q with z | z
          · rw [a4] at z; cases z
          · rw [a2] at z; cases z
      have hρ1 : ω i ∉ ρ1 := fun q => by
        rcases e1.newC _ q with z | z
        · exact a5 z
        · rw [a2] at z; cases z
      have sm : Same F1 (upd F1 (ω i) (.lst vs0)) := fun b u hb => by rw [upd_ne (ne_of_none hb hF1)]; exact hb
      have st' : StOk X.K Z.cm Z.nm ρ1 (upd F1 (ω i) (.lst vs0)) H1 s1 := st1.freeze hH1 hF1 hρ1
      have rl : RepD X.K ρ1 (upd F1 (ω i) (.lst vs0)) (.ref (ω i)) (.lst xs) := .lst (SqL.of upd_same) ((a3.mono e1.pre e1.froz).mono (List.prefix_refl _) sm)
      refine hq Z.cm Z.nm ρ1 _ H1 s1 _ _ d _ _ Q st' hd rl (r1.mono (List.prefix_refl _) sm) fun v' rr => q1.now st1 ?_
      have rr : RepD X.K ρ1 (upd F1 (ω i) (.lst vs0)) v' d := rr
      cases rr <;> first | exact .non | exact .bl _ | exact .int _ | exact .str _ | cases hsc
    · exact q1.elim
  · exact q1.elim

/-! ### built-ins -/
theorem nm_ {x : Str} {e : Expr} (h : nmB G X.env.scope x e = true) : ∃ p, e = .Name x p ∧ Gl X x ∧ X.mg x = none := by
  unfold nmB at h
  split at h
  · rename_i y hy
    simp only [Bool.and_eq_true, decide_eq_true_eq] at h
    obtain ⟨p, rfl⟩ := asName_ hy
    obtain ⟨⟨rfl, h2⟩, h3⟩ := h
    exact ⟨p, rfl, glB_ h2, g.bl _ h3⟩
  · cases h
theorem one_of {es : List Expr} (h : es.length = 1) : ∃ e, es = [e] := by
  match es, h with
  | [e], _ => exact ⟨e, rfl⟩
end
end Mn
set_option Elab.async false
set_option linter.all false
set_option maxRecDepth 100000
set_option maxHeartbeats 4000000
/-! The small language is sound: built-in functions, isinstance, cells, calls. -/
namespace Mn
open PySem L2 PyProof.Rows

theorem CallR_conseq {X : Cx} {f : Value} {r r' : List V → Hp → VK → Prop} (h : CallR X f r) (k : ∀ xs H Q, r' xs H Q → r xs H Q) : CallR X f r' := fun pins s σ H xs us Q I rv q => h pins s σ H xs us Q I rv (k _ _ _ q)

theorem intsD_rep {K : PySem.W.Frag} {ρ : List Addr} {F : Hp} : ∀ {vs : List V} {ds : List D} {ns : List Int}, RepL K ρ F vs ds → intsD ds = some ns → vs = ns.map V.int
  | _, _, _, .nil, h => by cases h; rfl
  | _, _, ns, .cons r l, h => by
    cases r <;> simp only [intsD] at h <;> try cases h
    rw [Option.map_eq_some_iff] at h
    obtain ⟨ms, h1, rfl⟩ := h
    rw [intsD_rep l h1]; rfl
theorem boolsD_rep {K : PySem.W.Frag} {ρ : List Addr} {F : Hp} : ∀ {vs : List V} {ds : List D} {ns : List Bool}, RepL K ρ F vs ds → boolsD ds = some ns → vs = ns.map V.bl
  | _, _, _, .nil, h => by cases h; rfl
  | _, _, ns, .cons r l, h => by
    cases r <;> simp only [boolsD] at h <;> try cases h
    rw [Option.map_eq_some_iff] at h
    obtain ⟨ms, h1, rfl⟩ := h
    rw [boolsD_rep l h1]; rfl
theorem listD_ {s : Sto} {d : D} {xs : List D} (h : listD s d = some xs) : deref s d = .lst xs := by
  unfold listD at h
  split at h
  · rename_i e; cases h; exact e
  · cases h
theorem min3_nu (i j k : Int) : nuMin3 (.int i) (.int j) (.int k) = some (.int (minI i [j, k])) := by
  by_cases h1 : j < i <;> by_cases h2 : k < j <;> by_cases h3 : k < i <;> simp [nuMin3, nuMin2, nuLt, nuCB, minI, h1, h2, h3]
theorem max3_nu (i j k : Int) : nuMax3 (.int i) (.int j) (.int k) = some (.int (maxI i [j, k])) := by
  by_cases h1 : i < j <;> by_cases h2 : j < k <;> by_cases h3 : i < k <;> simp [nuMax3, nuMax2, nuLt, nuCB, maxI, h1, h2, h3]
theorem minI_le : ∀ (ns : List Int) (n : Int), minI n ns ∈ n :: ns ∧ ∀ y ∈ n :: ns, minI n ns ≤ y := by
  intro ns
  induction ns with
  | nil => intro n; exact ⟨List.mem_cons_self, fun y hy => by simp at hy; subst hy; exact Int.le_refl _⟩
  | cons m ns ih =>
    intro n
    have e : minI n (m :: ns) = minI (if m < n then m else n) ns := rfl
    rw [e]
    obtain ⟨h1, h2⟩ := ih (if m < n then m else n)
    have h0 := h2 _ List.mem_cons_self
    refine ⟨?_, fun y hy => ?_⟩
    · rcases List.mem_cons.mp h1 with q | q
      · rw [q]; split <;> simp
      · simp [q]
    · rcases List.mem_cons.mp hy with rfl | hy
      · refine Int.le_trans h0 ?_; split <;> omega
      · rcases List.mem_cons.mp hy with rfl | hy
        · refine Int.le_trans h0 ?_; split <;> omega
        · exact h2 y (List.mem_cons_of_mem _ hy)
theorem maxI_le : ∀ (ns : List Int) (n : Int), maxI n ns ∈ n :: ns ∧ ∀ y ∈ n :: ns, y ≤ maxI n ns := by
  intro ns
  induction ns with
  | nil => intro n; exact ⟨List.mem_cons_self, fun y hy => by simp at hy; subst hy; exact Int.le_refl _⟩
  | cons m ns ih =>
    intro n
    have e : maxI n (m :: ns) = maxI (if n < m then m else n) ns := rfl
    rw [e]
    obtain ⟨h1, h2⟩ := ih (if n < m then m else n)
    have h0 := h2 _ List.mem_cons_self
    refine ⟨?_, fun y hy => ?_⟩
    · rcases List.mem_cons.mp h1 with q | q
      · rw [q]; split <;> simp
      · simp [q]
    · rcases List.mem_cons.mp hy with rfl | hy
      · refine Int.le_trans ?_ h0; split <;> omega
      · rcases List.mem_cons.mp hy with rfl | hy
        · refine Int.le_trans ?_ h0; split <;> omega
        · exact h2 y (List.mem_cons_of_mem _ hy)

def bfVal (f : BF) : Value := if (bfName f).2.2 then .type (match f with | .strOf => "str" | .tuple => "tuple" | _ => "int") else .builtin (match f with | .len => "len" | .abs => "abs" | .max2 | .max3 | .maxL | .maxD => "max" | .min2 | .min3 | .minL | .minD => "min" | .sum => "sum" | .all => "all" | _ => "any")
theorem bfBoot (f : BF) : bootBuiltins (bfName f).1 = some (bfVal f) := by cases f <;> decide +kernel
theorem bfNotName (f : BF) : (bfName f).1 ≠ "__name__" := by cases f <;> decide +kernel
theorem bfNotDebug (f : BF) : ((bfName f).1 == ("__debug__" : Str)) = false := by cases f <;> decide +kernel

/-- a built-in function over data -/
def rBi (K : PySem.W.Frag) (cm : List Addr) (nm : List Str) (f : BF) : List V → Hp → VK → Prop := fun xs H Q => ∃ ρ F s ds z, StOk K cm nm ρ F H s ∧ RepL K ρ F xs ds ∧ biD f s ds = some z ∧ Post K cm nm (RD K) (.ok z s) ρ F H s Q
theorem bi_of {X : Cx} (hc : X.calm = true) (cm : List Addr) (nm : List Str) (f : BF) : CallR X (bfVal f) (rBi X.K cm nm f) := by
  cases f
  case len =>
    refine CallR_conseq (CallR.or call_len_seq call_len_str) fun xs H Q q => ?_
    obtain ⟨ρ, F, s, ds, z, st, l, h, po⟩ := q
    cases l with
    | nil => simp [biD] at h
    | cons r l =>
      cases l with
      | cons _ _ => cases r <;> simp [biD] at h
      | nil =>
        cases r with
        | str w =>
          simp only [biD] at h
          split at h
          · rename_i hl
            cases h
            exact .inr ⟨str w, rfl, by rw [str_len, ← line_eq]; exact hl, by rw [str_len]; exact po.now st (.int _)⟩
          · cases h
        | non => simp [biD, seqD] at h
        | bl => simp [biD, seqD] at h
        | int => simp [biD, seqD] at h
        | dct => simp [biD, seqD] at h
        | tup hq l =>
          simp only [biD, seqD, Option.map_some] at h
          cases h
          exact .inl ⟨_, _, rfl, .inr (Same.sqT st.sub hq), by rw [l.length]; exact po.now st (.int _)⟩
        | lst hq l =>
          simp only [biD, seqD, Option.map_some] at h
          cases h
          exact .inl ⟨_, _, rfl, .inl (Same.seq st.sub hq), by rw [l.length]; exact po.now st (.int _)⟩
        | @ref n a e =>
          have h' : (seqD s (.ref n)).map (fun xs => D.int xs.length) = some z := h
          rw [Option.map_eq_some_iff] at h'
          obtain ⟨xs, h1, rfl⟩ := h'
          obtain ⟨a', vs, ha, hq, l⟩ := seq_of st (.ref e) h1
          cases ha
          exact .inl ⟨_, _, rfl, hq, by rw [l.length]; exact po.now st (.int _)⟩
  case abs =>
    refine CallR_conseq call_abs fun xs H Q q => ?_
    obtain ⟨ρ, F, s, ds, z, st, l, h, po⟩ := q
    cases l with
    | nil => simp [biD] at h
    | cons r l =>
      cases l with
      | cons _ _ => cases r <;> simp [biD] at h
      | nil =>
        cases r <;> simp only [biD] at h <;> try cases h
        exact ⟨_, rfl, po.now st (.int _)⟩
  case max2 =>
    refine CallR_conseq (call_max2 hc) fun xs H Q q => ?_
    obtain ⟨ρ, F, s, ds, z, st, l, h, po⟩ := q
    cases l with
    | nil => simp [biD] at h
    | cons r l =>
      cases l with
      | nil => cases r <;> simp [biD] at h
      | cons r2 l =>
        cases l with
        | cons _ _ => cases r <;> cases r2 <;> simp [biD] at h
        | nil =>
          cases r <;> cases r2 <;> simp only [biD] at h <;> try cases h
          exact ⟨_, _, rfl, po.now st (.int _)⟩
  case min2 =>
    refine CallR_conseq (call_min2 hc) fun xs H Q q => ?_
    obtain ⟨ρ, F, s, ds, z, st, l, h, po⟩ := q
    cases l with
    | nil => simp [biD] at h
    | cons r l =>
      cases l with
      | nil => cases r <;> simp [biD] at h
      | cons r2 l =>
        cases l with
        | cons _ _ => cases r <;> cases r2 <;> simp [biD] at h
        | nil =>
          cases r <;> cases r2 <;> simp only [biD] at h <;> try cases h
          exact ⟨_, _, rfl, po.now st (.int _)⟩
  case minL =>
    refine CallR_conseq (cr_min hc) fun xs H Q q => ?_
    obtain ⟨ρ, F, s, ds, z, st, l, h, po⟩ := q
    cases l with
    | nil => simp [biD] at h
    | cons r l =>
      cases l with
      | cons _ _ => simp [biD] at h
      | nil =>
        simp only [biD, Option.bind_eq_some_iff] at h
        obtain ⟨ys, h1, ns, h2, h3⟩ := h
        split at h3
        · cases h3
        · rename_i n ms
          cases h3
          obtain ⟨a, vs, rfl, hq, l⟩ := list_of st r (listD_ h1)
          have ev := intsD_rep l h2
          subst ev
          refine ⟨a, n :: ms, rfl, hq, by simp, fun m hm hle => ?_⟩
          obtain ⟨g1, g2⟩ := minI_le ms n
          have : m = minI n ms := Int.le_antisymm (hle _ g1) (g2 _ hm)
          subst this
          exact po.now st (.int _)
  case maxL =>
    refine CallR_conseq (cr_max hc) fun xs H Q q => ?_
    obtain ⟨ρ, F, s, ds, z, st, l, h, po⟩ := q
    cases l with
    | nil => simp [biD] at h
    | cons r l =>
      cases l with
      | cons _ _ => simp [biD] at h
      | nil =>
        simp only [biD, Option.bind_eq_some_iff] at h
        obtain ⟨ys, h1, ns, h2, h3⟩ := h
        split at h3
        · cases h3
        · rename_i n ms
          cases h3
          obtain ⟨a, vs, rfl, hq, l⟩ := list_of st r (listD_ h1)
          have ev := intsD_rep l h2
          subst ev
          refine ⟨a, n :: ms, rfl, hq, by simp, fun m hm hle => ?_⟩
          obtain ⟨g1, g2⟩ := maxI_le ms n
          have : m = maxI n ms := Int.le_antisymm (g2 _ hm) (hle _ g1)
          subst this
          exact po.now st (.int _)
  case sum =>
    refine CallR_conseq (cr_sum hc) fun xs H Q q => ?_
    obtain ⟨ρ, F, s, ds, z, st, l, h, po⟩ := q
    cases l with
    | nil => simp [biD] at h
    | cons r l =>
      cases l with
      | cons _ _ => simp [biD] at h
      | nil =>
        simp only [biD, Option.bind_eq_some_iff, Option.map_eq_some_iff] at h
        obtain ⟨ys, h1, ns, h2, rfl⟩ := h
        obtain ⟨a, vs, rfl, hq, l⟩ := list_of st r (listD_ h1)
        have ev := intsD_rep l h2
        subst ev
        exact ⟨a, ns, rfl, hq, po.now st (.int _)⟩
  case all =>
    refine CallR_conseq (cr_all hc) fun xs H Q q => ?_
    obtain ⟨ρ, F, s, ds, z, st, l, h, po⟩ := q
    cases l with
    | nil => simp [biD] at h
    | cons r l =>
      cases l with
      | cons _ _ => simp [biD] at h
      | nil =>
        simp only [biD, Option.bind_eq_some_iff, Option.map_eq_some_iff] at h
        obtain ⟨ys, h1, ns, h2, rfl⟩ := h
        obtain ⟨a, vs, rfl, hq, l⟩ := list_of st r (listD_ h1)
        have ev := boolsD_rep l h2
        subst ev
        exact ⟨a, ns, rfl, hq, po.now st (.bl _)⟩
  case any =>
    refine CallR_conseq (cr_any hc) fun xs H Q q => ?_
    obtain ⟨ρ, F, s, ds, z, st, l, h, po⟩ := q
    cases l with
    | nil => simp [biD] at h
    | cons r l =>
      cases l with
      | cons _ _ => simp [biD] at h
      | nil =>
        simp only [biD, Option.bind_eq_some_iff, Option.map_eq_some_iff] at h
        obtain ⟨ys, h1, ns, h2, rfl⟩ := h
        obtain ⟨a, vs, rfl, hq, l⟩ := list_of st r (listD_ h1)
        have ev := boolsD_rep l h2
        subst ev
        exact ⟨a, ns, rfl, hq, po.now st (.bl _)⟩
  case max3 =>
    refine CallR_conseq (call_max3Nu hc) fun xs H Q q => ?_
    obtain ⟨ρ, F, s, ds, z, st, l, h, po⟩ := q
    obtain ⟨i, j, k, rfl, rfl⟩ : ∃ i j k, ds = [.int i, .int j, .int k] ∧ z = .int (maxI i [j, k]) := by
      unfold biD at h
      split at h <;> first | (simp_all; done) | skip
      rename_i i j k heq
      cases h
      exact ⟨i, j, k, rfl, rfl⟩
    cases l with
    | cons r1 l => cases l with
      | cons r2 l => cases l with
        | cons r3 l =>
          cases l; cases r1; cases r2; cases r3
          exact ⟨_, _, _, _, rfl, max3_nu i j k, po.now st (.int _)⟩
  case min3 =>
    refine CallR_conseq (call_min3Nu hc) fun xs H Q q => ?_
    obtain ⟨ρ, F, s, ds, z, st, l, h, po⟩ := q
    obtain ⟨i, j, k, rfl, rfl⟩ : ∃ i j k, ds = [.int i, .int j, .int k] ∧ z = .int (minI i [j, k]) := by
      unfold biD at h
      split at h <;> first | (simp_all; done) | skip
      rename_i i j k heq
      cases h
      exact ⟨i, j, k, rfl, rfl⟩
    cases l with
    | cons r1 l => cases l with
      | cons r2 l => cases l with
        | cons r3 l =>
          cases l; cases r1; cases r2; cases r3
          exact ⟨_, _, _, _, rfl, min3_nu i j k, po.now st (.int _)⟩
  case intOf =>
    refine CallR_conseq call_int1 fun xs H Q q => ?_
    obtain ⟨ρ, F, s, ds, z, st, l, h, po⟩ := q
    cases l with
    | nil => simp [biD] at h
    | cons r l =>
      cases l with
      | cons _ _ => cases r <;> simp [biD] at h
      | nil =>
        cases r <;> simp only [biD] at h <;> try cases h
        · exact .inr ⟨_, rfl, po.now st (.int _)⟩
        · exact .inl ⟨_, rfl, po.now st (.int _)⟩
  case tuple =>
    refine CallR_conseq call_tuple_of fun xs H Q q => ?_
    obtain ⟨ρ, F, s, ds, z, st, l, h, po⟩ := q
    cases l with
    | nil => simp [biD] at h
    | cons r l =>
      cases l with
      | cons _ _ => cases r <;> simp [biD] at h
      | nil =>
        have lists : ∀ {d : D} {v : V} {ys : List D}, RepD X.K ρ F v d → listD s d = some ys → z = .tup ys → ∃ p us, [v] = [V.ref p] ∧ ((SqL X.K H p us ∧ ∀ l, H l = none → Q (.ref l) (upd H l (.tup us))) ∨ (SqT X.K H p us ∧ Q (.ref p) H)) := fun {d v ys} r h1 hz => by
          obtain ⟨a, vs, rfl, hq, l⟩ := list_of st r (listD_ h1)
          subst hz
          refine ⟨a, vs, rfl, .inl ⟨hq, fun p hp => po.fresh st hp (.tup (SqT.of upd_same) (l.mono (List.prefix_refl _) fun b u hb => ?_))⟩⟩
          rw [upd_ne (ne_of_none hb (st.noF hp))]; exact hb
        cases r with
        | tup hq l =>
          simp only [biD] at h
          cases h
          exact ⟨_, _, rfl, .inr ⟨Same.sqT st.sub hq, po.now st (.tup hq l)⟩⟩
        | lst hq l =>
          have h' : (listD s (.lst _)).map D.tup = some z := h
          rw [Option.map_eq_some_iff] at h'
          obtain ⟨ys, h1, h2⟩ := h'
          exact lists (.lst hq l) h1 h2.symm
        | ref e =>
          have h' : (listD s (.ref _)).map D.tup = some z := h
          rw [Option.map_eq_some_iff] at h'
          obtain ⟨ys, h1, h2⟩ := h'
          exact lists (.ref e) h1 h2.symm
        | _ => simp [biD, listD, deref] at h
  all_goals
    intro pins s σ H xs us Q I rv q
    obtain ⟨ρ, F, s, ds, z, st, l, h, po⟩ := q
    simp [biD] at h
end Mn
set_option Elab.async false
set_option linter.all false
set_option maxRecDepth 100000
set_option maxHeartbeats 4000000
/-! The small language is sound: isinstance, cells, calls, walks, comprehensions. -/
namespace Mn
open PySem L2 PyProof.Rows
section
variable {X : Cx} {Z : Ev} {G : Gi} {k : Nat} (g : Gd X Z G k)
include g

theorem se_bi {f : BF} {ms : MEs} {e : Expr} {es : List Expr} {p q : Pos} (hg : Gl X (bfName f).1) (hm : X.mg (bfName f).1 = none) (hs : (e :: es).all notStar = true) (h : PA X (e :: es) (tEs X.K Z ms)) :
    PE X (.Call (.Name (bfName f).1 p) (e :: es) [] q) (tE X.K Z (.bi f ms)) := by
  have h1 : notStar e = true ∧ es.all notStar = true := by simpa using hs
  have hb := bi_of g.calm Z.cm Z.nm f
  have hv := bfBoot f
  have main : PE X (.Call (.Name (bfName f).1 p) (e :: es) [] q) (tCB (rBi X.K Z.cm Z.nm f) (tEs X.K Z ms)) := by
    cases hv' : bfVal f with
    | builtin id =>
      rw [hv'] at hb hv
      exact pe_callB hb hg hm hv h (bfNotName f) (bfNotDebug f) (starEach_ h1.1 _ _) (nostars _ _ h1.2)
    | type T =>
      rw [hv'] at hb hv
      exact pe_callTy hb hg hm hv h (bfNotName f) (bfNotDebug f) (starEach_ h1.1 _ _) (nostars _ _ h1.2)
    | _ => cases f <;> cases hv'
  refine main.conseq fun σ H Q q => ?_
  simp only [tE, evalE] at q
  refine tR.bind anti_RD q fun δ ds s1 vs ρ1 F1 H1 st1 lo1 r1 q1 => ?_
  obtain ⟨z, hz, q2⟩ := Post.lift q1
  exact ⟨ρ1, F1, s1, ds, z, st1, r1, hz, q2⟩

theorem se_dft {mx : Bool} {a k : ME} {x y : Expr} {p q kp : Pos} (hg : Gl X (dfName mx)) (hm : X.mg (dfName mx) = none) (hx : notStar x = true) (ha : PE X x (tE X.K Z a)) (hk : PE X y (tE X.K Z k)) :
    PE X (.Call (.Name (dfName mx) p) [x] [⟨some (Str.ofString "default"), y, kp⟩] q) (tE X.K Z (.dft mx a k)) := by
  have hx1 : [x].all notStar = true := by simpa using hx
  cases mx with
  | false =>
    refine (pe_callBK (cr_mind g.calm) hg hm (by decide +kernel) (pa_cons ha pa_nil (starEach_ hx _ _)) (pk_cons hk pk_nil) (by decide +kernel) (by decide +kernel) (congrArg (backTo q) (starEach_ hx _ _)) (nostars _ _ hx1)).conseq fun σ H Q h => ?_
    simp only [tE, evalE] at h
    refine tR.bind anti_RD h fun δ d s1 v ρ1 F1 H1 st1 lo1 r1 q1 => ?_
    refine ⟨δ, s1, ρ1, F1, st1, lo1, Post.bind anti_RD q1 fun e s2 w ρ2 F2 H2 e2 st2 r2 q2 => ?_⟩
    obtain ⟨z, hz, q3⟩ := Post.lift q2
    cases e <;> simp only [dftD] at hz <;> try (cases hz; done)
    rename_i i
    simp only [Option.bind_eq_some_iff, Option.map_eq_some_iff] at hz
    obtain ⟨ys, h1, ns, h2, rfl⟩ := hz
    obtain ⟨a, vs, rfl, hq, l⟩ := list_of st2 (r1.mono e2.pre e2.froz) (listD_ h1)
    have ev := intsD_rep l h2
    subst ev
    cases r2
    refine ⟨a, ns, i, rfl, rfl, hq, fun e0 => ?_, fun m hm hle => ?_⟩
    · subst e0; exact q3.now st2 (.int _)
    · cases ns with
      | nil => cases hm
      | cons n ms =>
        obtain ⟨g1, g2⟩ := minI_le ms n
        have : m = minI n ms := Int.le_antisymm (hle _ g1) (g2 _ hm)
        subst this
        exact q3.now st2 (.int _)
  | true =>
    refine (pe_callBK (cr_maxd g.calm) hg hm (by decide +kernel) (pa_cons ha pa_nil (starEach_ hx _ _)) (pk_cons hk pk_nil) (by decide +kernel) (by decide +kernel) (congrArg (backTo q) (starEach_ hx _ _)) (nostars _ _ hx1)).conseq fun σ H Q h => ?_
    simp only [tE, evalE] at h
    refine tR.bind anti_RD h fun δ d s1 v ρ1 F1 H1 st1 lo1 r1 q1 => ?_
    refine ⟨δ, s1, ρ1, F1, st1, lo1, Post.bind anti_RD q1 fun e s2 w ρ2 F2 H2 e2 st2 r2 q2 => ?_⟩
    obtain ⟨z, hz, q3⟩ := Post.lift q2
    cases e <;> simp only [dftD] at hz <;> try (cases hz; done)
    rename_i i
    simp only [Option.bind_eq_some_iff, Option.map_eq_some_iff] at hz
    obtain ⟨ys, h1, ns, h2, rfl⟩ := hz
    obtain ⟨a, vs, rfl, hq, l⟩ := list_of st2 (r1.mono e2.pre e2.froz) (listD_ h1)
    have ev := intsD_rep l h2
    subst ev
    cases r2
    refine ⟨a, ns, i, rfl, rfl, hq, fun e0 => ?_, fun m hm hle => ?_⟩
    · subst e0; exact q3.now st2 (.int _)
    · cases ns with
      | nil => cases hm
      | cons n ms =>
        obtain ⟨g1, g2⟩ := maxI_le ms n
        have : m = maxI n ms := Int.le_antisymm (g2 _ hm) (hle _ g1)
        subst this
        exact q3.now st2 (.int _)
omit g in
def tyOK (s : Sto) (d : D) : Option String := match d with
  | .non => some "NoneType" | .bl _ => some "bool" | .int _ => some "int" | .str _ => some "str" | .tup _ => some "tuple" | .lst _ => some "list" | .dct _ => some "dict"
  | .ref n => match s.c[n]? with | some (.L _) => some "list" | _ => none
omit g in
theorem isiD_ {s : Sto} {d : D} {t : Ty} {b : Bool} (h : isiD s d t = some b) : ∃ a, tyOK s d = some a ∧ kitB a (tyName t) = some b := by
  unfold isiD at h
  cases d
  case ref n =>
    dsimp only at h
    split at h
    · rename_i xs hx
      refine ⟨"list", by simp only [tyOK, hx], ?_⟩
      cases t <;> cases h <;> decide +kernel
    · cases h
  all_goals
    refine ⟨_, rfl, ?_⟩
    cases t <;> cases h <;> decide +kernel
omit g in
theorem tyx_of {cm : List Addr} {nm : List Str} {ρ : List Addr} {F H : Hp} {s : Sto} {d : D} {x : V} {a : String} {K : PySem.W.Frag} (st : StOk K cm nm ρ F H s) (r : RepD K ρ F x d) (h : tyOK s d = some a) : TyX K H x (.type a) := by
  cases r with
  | non => cases h; exact .base .non
  | bl b => cases h; exact .base (.bl b)
  | int b => cases h; exact .base (.int b)
  | str b => cases h; exact .base (.str _)
  | tup hq l =>
    cases h
    rcases hq with (hq | ⟨o, hq⟩) | ⟨o, its, n, hk, hc, _⟩
    · exact .base (.tup (st.sub _ _ hq))
    · exact .fTuple (st.sub _ _ hq)
    · exact .kTuple hk hc
  | lst hq l =>
    cases h
    rcases hq with (hq | ⟨o, hq⟩) | ⟨o, its, n, hk, hc, _⟩
    · exact .base (.lst (st.sub _ _ hq))
    · exact .base (.frz (st.sub _ _ hq))
    · exact .kList hk hc
  | dct e => cases h; exact .base (.dK (st.sub _ _ e))
  | @ref n a' e =>
    simp only [tyOK] at h
    split at h
    · rename_i xs hx
      cases h
      obtain ⟨vs, h1, _⟩ := st.lst e hx
      exact .base (.lst h1)
    · cases h
omit g in
theorem se_isi {a : ME} {t : Ty} {x : Expr} {p q r : Pos} (hg : Gl X "isinstance") (hm : X.mg "isinstance" = none) (hg2 : Gl X (Str.ofString (tyName t))) (hm2 : X.mg (Str.ofString (tyName t)) = none) (hs : notStar x = true) (ha : PE X x (tE X.K Z a)) :
    PE X (.Call (.Name "isinstance" p) [x, .Name (Str.ofString (tyName t)) r] [] q) (tE X.K Z (.isi a t)) := by
  have hb : bootBuiltins (Str.ofString (tyName t)) = some (.type (tyName t)) := by cases t <;> decide +kernel
  have hT : PE X (.Name (Str.ofString (tyName t)) r) (tC (.ty (tyName t))) := pe_bltn hg2 hm2 hb rfl (by cases t <;> decide +kernel) (by cases t <;> decide +kernel)
  have hA : PA X [x, .Name (Str.ofString (tyName t)) r] (tCons (tE X.K Z a) (tCons (tC (.ty (tyName t))) tNil)) := pa_cons ha (pa_cons hT pa_nil (starEach_ rfl _ _)) (starEach_ hs _ _)
  refine (pe_callB call_isi hg hm boot_isinstance hA (by decide +kernel) (by decide +kernel) (starEach_ hs _ _) (nostars _ _ rfl)).conseq fun σ H Q q => ?_
  simp only [tE, evalE] at q
  refine tR.bind anti_RD q fun δ d s1 v ρ1 F1 H1 st1 lo1 r1 q1 => ?_
  obtain ⟨z, hz, q2⟩ := Post.lift q1
  rw [Option.map_eq_some_iff] at hz
  obtain ⟨b, hb', rfl⟩ := hz
  obtain ⟨c, h1, h2⟩ := isiD_ hb'
  exact ⟨v, .ty (tyName t), .type c, .type (tyName t), b, rfl, .ty _, tyx_of st1 r1 h1, kit_ty h2, q2.now st1 (.bl _)⟩

theorem sf_listOf {a : ME} {x : Expr} {p q : Pos} (hg : Gl X "list") (hm : X.mg "list" = none) (hs : notStar x = true) (ha : PE X x (tE X.K Z a)) : PE X (.Call (.Name "list" p) [x] [] q) (tF X.K Z (.bf .listOf a)) := by
  refine (pe_callTy call_list_of hg hm PyProof.Rows.boot_list (pa_cons ha pa_nil (starEach_ hs _ _)) (by decide +kernel) (by decide +kernel) (starEach_ hs _ _) (nostars _ _ rfl)).conseq fun σ H Q q => ?_
  simp only [tF, evalF] at q
  refine tR.bind anti_RO q fun δ d s1 v ρ1 F1 H1 st1 lo1 r1 q1 => ?_
  split at q1
  · rename_i xs hx
    obtain ⟨a', vs, rfl, h1, h2⟩ := seq_of st1 r1 hx
    exact ⟨a', vs, rfl, h1, fun p hp => q1.owned st1 hp h2⟩
  · exact q1.elim

/-! ### cells -/
omit g in
theorem StOk.cell_new {K : PySem.W.Frag} {cm : List Addr} {nm : List Str} {ρ : List Addr} {F H : Hp} {s : Sto} {p : Addr} {o : HO} {c : Cell} (st : StOk K cm nm ρ F H s) (hp : H p = some o) (hF : F p = none) (hc : p ∉ ρ) (r : RepC K cm nm ρ F o c) :
    StOk K cm nm (ρ ++ [p]) F H ⟨s.c ++ [c], s.w⟩ := by
  have pre : ρ <+: ρ ++ [p] := List.prefix_append ρ [p]
  refine ⟨st.sub, by simp [st.len], fun n a d h1 h2 => ?_, fun a h => ?_, ?_⟩
  · by_cases hn : n < ρ.length
    · rw [List.getElem?_append_left hn] at h1
      rw [List.getElem?_append_left (by rw [← st.len]; exact hn)] at h2
      obtain ⟨u, q1, q2⟩ := st.cell n a d h1 h2
      exact ⟨u, q1, q2.mono pre (Same.refl _)⟩
    · rw [List.getElem?_append_right (by omega)] at h1
      rw [List.getElem?_append_right (by rw [← st.len]; omega)] at h2
      have e : n - ρ.length = 0 := by
        have := (List.getElem?_eq_some_iff.mp h1).1
        simp at this; omega
      rw [e] at h1
      rw [← st.len, e] at h2
      simp at h1 h2
      subst h1 h2
      exact ⟨o, hp, r.mono pre (Same.refl _)⟩
  · rcases List.mem_append.mp h with h | h
    · exact st.off a h
    · simp at h; subst h; exact hF
  · refine List.nodup_append.mpr ⟨st.nd, by simp, fun a ha b hb z => ?_⟩
    simp at hb
    subst hb z
    exact hc ha
omit g in
theorem Ext.cell_new {ρ ρ' : List Addr} {F F' H H' : Hp} {s s' : Sto} {p : Addr} (c : List Cell) (e : Ext ρ F H s ρ' F' H' s') (h0 : H p = none) : Ext ρ F H s (ρ' ++ [p]) F' H' ⟨c, s'.w⟩ where
  pre := e.pre.trans (List.prefix_append ρ' [p])
  froz := e.froz
  wle := e.wle
  keep := e.keep
  still := e.still
  there := e.there
  newF := e.newF
  newC := fun b hb => by
    rcases List.mem_append.mp hb with q | q
    · exact e.newC b q
    · simp at q; subst q; exact .inr h0
theorem se_newL {ms : MEs} {es : List Expr} {p : Pos} (h : PA X es (tEs X.K Z ms)) : PE X (.List es p) (tE X.K Z (.newL ms)) := (pe_lst h).conseq fun σ H Q q => by
  simp only [tE, evalE] at q
  refine tR.bind anti_RD q fun δ ds s1 vs ρ1 F1 H1 st1 lo1 r1 q1 => ?_
  split at q1
  · rename_i hl
    refine ⟨by rw [r1.length, ← line_eq]; exact hl, fun p hp => ?_⟩
    have st2 := (st1.alloc (o := .lst vs) hp).cell_new upd_same (st1.noF hp) (st1.noC hp) (.L r1)
    refine q1 (.ref p) _ F1 _ ((Ext.alloc (o := .lst vs) hp).cell_new _ hp) st2 (.ref ?_)
    rw [← st1.len]; simp
  · exact q1.elim

/-! ### calls -/
theorem sf_call {f : Nat} {ms : MEs} {x : Str} {e : Expr} {es : List Expr} {p q : Pos} (hf : G.fn[f]? = some x) (hg : Gl X x) (hd : (x == ("__debug__" : Str)) = false) (hs : (e :: es).all notStar = true) (h : PA X (e :: es) (tEs X.K Z ms)) :
    PE X (.Call (.Name x p) (e :: es) [] q) (tF X.K Z (.call f ms)) := by
  obtain ⟨a, fd, ps, hm, hk, hb, F, hno⟩ := g.fn f x hf
  have h1 : notStar e = true ∧ es.all notStar = true := by simpa using hs
  refine (pe_call F g.room hg hm hk hb .nil pass0 h hd (starEach_ h1.1 _ _) (nostars _ _ h1.2)).conseq fun σ H Q q => ?_
  simp only [tF, evalF] at q
  refine tR.bind anti_RO q fun δ ds s1 vs ρ1 F1 H1 st1 lo1 r1 q1 => ?_
  have r1 : RepL X.K ρ1 F1 vs ds := r1
  refine ⟨ρ1, F1, s1, ds, ?_, st1, by rw [List.append_nil]; exact r1, q1⟩
  rw [List.append_nil, r1.length]
  by_cases hl : ds.length = ps.length
  · exact hl
  · rw [hno ds s1 hl] at q1; exact q1.elim
theorem sf_call0 {f : Nat} {x : Str} {p q : Pos} (hf : G.fn[f]? = some x) (hg : Gl X x) (hd : (x == ("__debug__" : Str)) = false) :
    PE X (.Call (.Name x p) [] [] q) (tF X.K Z (.call f .nil)) := by
  obtain ⟨a, fd, ps, hm, hk, hb, F, hno⟩ := g.fn f x hf
  refine (pe_call0 F g.room hg hm hk hb .nil pass0 hd).conseq fun σ H Q q => ?_
  obtain ⟨δ, s, ρ, F', st, lo, po⟩ := q
  simp only [evalF, evalEs, Re.bind_ok] at po
  refine ⟨ρ, F', s, [], ?_, st, .nil, po⟩
  by_cases hl : ([] : List D).length = ps.length
  · exact hl
  · rw [hno [] s hl] at po; exact po.elim

/-! ### what is walked -/
omit g in
/-- the walk J goes over the items of t, whatever the heap becomes -/
def JOk (K : PySem.W.Frag) (cm : List Addr) (nm : List Str) (J : It) (t : Wk) (ρc : List Addr) (Fc : Hp) : Prop := ∀ ρ F H s, ρc <+: ρ → Same Fc F → StOk K cm nm ρ F H s → t.still s →
  (∀ i, t.xs.length ≤ i → J.stop i H) ∧ ∀ i, i < t.xs.length → J.go i H ∧ ∀ x H', J.yld i H x H' → ∃ d F', t.xs[i]? = some d ∧ Ext ρ F H s ρ F' H' s ∧ StOk K cm nm ρ F' H' s ∧ RepD K ρ F' x d
omit g in
theorem JOk.mono {K : PySem.W.Frag} {cm : List Addr} {nm : List Str} {J : It} {t : Wk} {ρ ρ' : List Addr} {F F' : Hp} (h : JOk K cm nm J t ρ F) (a : ρ <+: ρ') (b : Same F F') : JOk K cm nm J t ρ' F' :=
  fun ρ2 F2 H s c d => h ρ2 F2 H s (a.trans c) (b.trans d)
omit g in
def RI (K : PySem.W.Frag) (cm : List Addr) (nm : List Str) : Rel Wk It := fun _ ρ F _ J t => JOk K cm nm J t ρ F
omit g in
theorem anti_RI {K : PySem.W.Frag} {cm : List Addr} {nm : List Str} : Anti (RI K cm nm) := fun _ _ _ _ _ _ _ _ h => h
omit g in
abbrev tI (K : PySem.W.Frag) (Z : Ev) (m : MI) : TI := tR K Z (RI K Z.cm Z.nm) (evalI Z.cf m)
omit g in
theorem pi_or {tg e : Expr} {w1 w2 : TI} (h1 : PI X tg e w1) (h2 : PI X tg e w2) : PI X tg e (fun σ H R => w1 σ H R ∨ w2 σ H R) := ⟨fun pins s σ H R I q => q.elim (h1.run pins s σ H R I) (h2.run pins s σ H R I)⟩
omit g in
theorem _root_.L2.PI.conseq {tg e : Expr} {w w' : TI} (h : PI X tg e w) (k : ∀ σ H Q, w' σ H Q → w σ H Q) : PI X tg e w' := ⟨fun pins s σ H Q I q => h.run pins s σ H Q I (k σ H Q q)⟩

omit g in
theorem j_list {K : PySem.W.Frag} {cm : List Addr} {nm : List Str} {ρ : List Addr} {F : Hp} {a : Addr} {vs : List V} {xs : List D} (hq : SqL K F a vs) (l : RepL K ρ F vs xs) : JOk K cm nm (Itl K a) ⟨xs, none⟩ ρ F := by
  intro ρ2 F2 H s hρ hF st _
  have hH : SqL K H a vs := Same.seq st.sub (Same.seq hF hq)
  refine ⟨fun i hi => ⟨vs, hH, by rw [l.length]; exact hi⟩, fun i hi => ?_⟩
  obtain ⟨v, hv, rv⟩ := l.get (i := i) (d := xs[i]) (by simp [hi])
  refine ⟨⟨vs, v, hH, hv⟩, fun x H' y => ?_⟩
  obtain ⟨rfl, y⟩ := y
  have e := y vs hH
  rw [hv] at e
  cases e
  exact ⟨xs[i], F2, by simp [hi], Ext.refl _ _ _ _, st, rv.mono hρ hF⟩
omit g in
theorem j_tup {K : PySem.W.Frag} {cm : List Addr} {nm : List Str} {ρ : List Addr} {F : Hp} {a : Addr} {vs : List V} {xs : List D} (hq : SqT K F a vs) (l : RepL K ρ F vs xs) : JOk K cm nm (Itt K a) ⟨xs, none⟩ ρ F := by
  intro ρ2 F2 H s hρ hF st _
  have hH : SqT K H a vs := Same.sqT st.sub (Same.sqT hF hq)
  refine ⟨fun i hi => ⟨vs, hH, by rw [l.length]; exact hi⟩, fun i hi => ?_⟩
  obtain ⟨v, hv, rv⟩ := l.get (i := i) (d := xs[i]) (by simp [hi])
  refine ⟨⟨vs, v, hH, hv⟩, fun x H' y => ?_⟩
  obtain ⟨rfl, y⟩ := y
  have e := y vs hH
  rw [hv] at e
  cases e
  exact ⟨xs[i], F2, by simp [hi], Ext.refl _ _ _ _, st, rv.mono hρ hF⟩
omit g in
/-- a cell that is walked: it holds the same things at each turn -/
theorem j_cell {K : PySem.W.Frag} {cm : List Addr} {nm : List Str} {ρ : List Addr} {F : Hp} {a : Addr} {n : Nat} {xs : List D} (e : ρ[n]? = some a) : JOk K cm nm (Itl K a) ⟨xs, some n⟩ ρ F := by
  intro ρ2 F2 H s hρ hF st still
  have e2 : ρ2[n]? = some a := by
    obtain ⟨t, rfl⟩ := hρ
    rw [List.getElem?_append_left (List.getElem?_eq_some_iff.mp e).1]
    exact e
  obtain ⟨vs, hH, l⟩ := st.lst e2 still
  refine ⟨fun i hi => ⟨vs, SqL.of hH, by rw [l.length]; exact hi⟩, fun i hi => ?_⟩
  obtain ⟨v, hv, rv⟩ := l.get (i := i) (d := xs[i]) (by simp [hi])
  refine ⟨⟨vs, v, SqL.of hH, hv⟩, fun x H' y => ?_⟩
  obtain ⟨rfl, y⟩ := y
  have e := y vs (SqL.of hH)
  rw [hv] at e
  cases e
  exact ⟨xs[i], F2, by simp [hi], Ext.refl _ _ _ _, st, rv⟩
omit g in
theorem j_str {K : PySem.W.Frag} {cm : List Addr} {nm : List Str} {ρ : List Addr} {F : Hp} (z : List Nat) : JOk K cm nm (Its (str z)) ⟨z.map fun c => .str [c], none⟩ ρ F := by
  intro ρ2 F2 H s hρ hF st _
  have hz : (str z).cps.size = z.length := by simp [str]
  refine ⟨fun i hi => by show (str z).cps.size ≤ i; rw [hz]; simpa using hi, fun i hi => ?_⟩
  have hi' : i < z.length := by simpa using hi
  refine ⟨by show i < (str z).cps.size; rw [hz]; exact hi', fun x H' y => ?_⟩
  obtain ⟨rfl, c, hc, rfl⟩ := y
  have hc' : z[i]? = some c := by simpa [str] using hc
  exact ⟨.str [c], F2, by simp [hc'], Ext.refl _ _ _ _, st, .str [c]⟩
omit g in
theorem j_rng {K : PySem.W.Frag} {cm : List Addr} {nm : List Str} {ρ : List Addr} {F : Hp} (lo : Int) (n : Nat) : JOk K cm nm (Itr lo n) ⟨upFrom lo n, none⟩ ρ F := by
  intro ρ2 F2 H s hρ hF st _
  have hz : (upFrom lo n).length = n := by simp [upFrom]
  refine ⟨fun i hi => by show n ≤ i; rw [hz] at hi; exact hi, fun i hi => ?_⟩
  have hi' : i < n := by rw [hz] at hi; exact hi
  refine ⟨hi', fun x H' y => ?_⟩
  obtain ⟨rfl, rfl⟩ := y
  exact ⟨.int (lo + i), F2, by simp [upFrom, hi'], Ext.refl _ _ _ _, st, .int _⟩
theorem si_seq {m : ME} {tg e : Expr} (h : PE X e (tE X.K Z m)) : PI X tg e (tI X.K Z (.seq m)) := by
  refine (pi_or (pi_list h) (pi_or (pi_tup h) (pi_str h))).conseq fun σ H R q => ?_
  obtain ⟨δ, s, ρ, F, st, lo, po⟩ := q
  simp only [evalI] at po
  cases hr : evalE Z.cf m δ s with
  | no => rw [hr] at po; exact po.elim
  | ex x s => rw [hr] at po; exact po.elim
  | ok d s1 =>
    rw [hr] at po
    simp only [Re.bind_ok] at po
    obtain ⟨t, ht, po1⟩ : ∃ t, itsOf s1 d = some t ∧ Post X.K Z.cm Z.nm (RI X.K Z.cm Z.nm) (.ok t s1) ρ F H s R := by
      cases hi : itsOf s1 d with
      | none => rw [hi] at po; exact po.elim
      | some t => rw [hi] at po; exact ⟨t, rfl, po⟩
    have post : ∀ {Q1 : VK}, (∀ v ρ1 F1 H1, Ext ρ F H s ρ1 F1 H1 s1 → StOk X.K Z.cm Z.nm ρ1 F1 H1 s1 → RepD X.K ρ1 F1 v d → Q1 v H1) → tE X.K Z m σ H Q1 := fun {Q1} k => ⟨δ, s, ρ, F, st, lo, by
      rw [hr]; exact fun v ρ1 F1 H1 e1 st1 r1 => k v ρ1 F1 H1 e1 st1 r1⟩
    have po2 : ∀ {ρ1 F1 H1 J}, Ext ρ F H s ρ1 F1 H1 s1 → StOk X.K Z.cm Z.nm ρ1 F1 H1 s1 → JOk X.K Z.cm Z.nm J t ρ1 F1 → R J H1 := fun {ρ1 F1 H1 J} e1 st1 j => po1 J ρ1 F1 H1 e1 st1 j
    cases d with
    | lst xs =>
      cases ht
      refine .inl (post fun v ρ1 F1 H1 e1 st1 r1 => ?_)
      cases r1 with
      | lst hq l => exact ⟨_, rfl, ⟨_, Same.seq st1.sub hq⟩, po2 e1 st1 (j_list hq l)⟩
    | tup xs =>
      cases ht
      refine .inr (.inl (post fun v ρ1 F1 H1 e1 st1 r1 => ?_))
      cases r1 with
      | tup hq l => exact ⟨_, rfl, ⟨_, Same.sqT st1.sub hq⟩, po2 e1 st1 (j_tup hq l)⟩
    | str z =>
      cases ht
      refine .inr (.inr (post fun v ρ1 F1 H1 e1 st1 r1 => ?_))
      cases r1 with
      | str => exact ⟨_, rfl, po2 e1 st1 (j_str z)⟩
    | ref n =>
      simp only [itsOf] at ht
      split at ht
      · rename_i xs hx
        cases ht
        refine .inl (post fun v ρ1 F1 H1 e1 st1 r1 => ?_)
        cases r1 with
        | ref e =>
          obtain ⟨vs, h1, _⟩ := st1.lst e hx
          exact ⟨_, rfl, ⟨_, SqL.of h1⟩, po2 e1 st1 (j_cell e)⟩
      · cases ht
    | _ => cases ht
theorem si_r1 {a : ME} {tg x : Expr} {p q : Pos} (hg : Gl X "range") (hm : X.mg "range" = none) (hs : notStar x = true) (ha : PE X x (tE X.K Z a)) : PI X tg (.Call (.Name "range" p) [x] [] q) (tI X.K Z (.r1 a)) := by
  refine (pi_range1 hg hm (pa_cons ha pa_nil (starEach_ hs _ _)) (starEach_ hs _ _)).conseq fun σ H R q => ?_
  simp only [tI, evalI] at q
  refine tR.bind anti_RI q fun δ d s1 v ρ1 F1 H1 st1 lo1 r1 q1 => ?_
  cases d <;> first | exact q1.elim | skip
  rename_i j
  cases r1
  dsimp only at q1
  split at q1
  · rename_i hsm
    exact ⟨j, rfl, hsm.1, hsm.2, q1.now st1 (j_rng 0 _)⟩
  · exact q1.elim
theorem si_r2 {a b : ME} {tg x y : Expr} {p q : Pos} (hg : Gl X "range") (hm : X.mg "range" = none) (hs : notStar x = true) (hs2 : notStar y = true) (ha : PE X x (tE X.K Z a)) (hb : PE X y (tE X.K Z b)) : PI X tg (.Call (.Name "range" p) [x, y] [] q) (tI X.K Z (.r2 a b)) := by
  refine (pi_range2 hg hm (pa_cons ha (pa_cons hb pa_nil (starEach_ hs2 _ _)) (starEach_ hs _ _)) (by rw [starEach_ hs, starEach_ hs2]; rfl) (starEach_ hs2 _ _)).conseq fun σ H R q => ?_
  simp only [tI, evalI] at q
  refine tR.bind anti_RI q fun δ d s1 v ρ1 F1 H1 st1 lo1 r1 q1 => ?_
  refine ⟨δ, s1, ρ1, F1, st1, lo1, Post.bind anti_RI q1 fun e s2 w ρ2 F2 H2 e2 st2 r2 q2 => ?_⟩
  cases d <;> first | exact q2.elim | skip
  cases e <;> first | exact q2.elim | skip
  rename_i i j
  cases r1; cases r2
  dsimp only at q2
  split at q2
  · rename_i hsm
    exact ⟨i, j, rfl, ⟨hsm.1.1, hsm.1.2, hsm.2.1, hsm.2.2⟩, q2.now st2 (j_rng i _)⟩
  · exact q2.elim
omit g in
theorem strs_rep {K : PySem.W.Frag} {ρ : List Addr} {F : Hp} : ∀ {vs : List V} {ds : List D} {zs : List (List Nat)}, RepL K ρ F vs ds → strsD ds = some zs → vs = (zs.map str).map V.str
  | _, _, _, .nil, h => by cases h; rfl
  | _, _, zs, .cons r l, h => by
    cases r <;> simp only [strsD] at h <;> try cases h
    rw [Option.map_eq_some_iff] at h
    obtain ⟨ms, h1, rfl⟩ := h
    rw [strs_rep l h1]; rfl
omit g in
theorem Re_assoc {α β γ : Type} {r : Re α} {f : α → Sto → Re β} {h : β → Sto → Re γ} : (r.bind f).bind h = r.bind fun a s => (f a s).bind h := by cases r <;> rfl
theorem se_join {o a : ME} {x y : Expr} {pa p : Pos} (hb : plainBs x = true) (hline : (pa.endLine == p.line) = true) (hs : notStar y = true) (ho : PE X x (tE X.K Z o)) (ha : PE X y (tE X.K Z a)) : PE X (.Call (.Attribute x "join" pa) [y] [] p) (tE X.K Z (.bm .join o (.cons a .nil))) := by
  refine (pe_bm PySem.F.plainAttrs_str PySem.F.slot_str_join PySem.F.type_str_join mt_join ho (pa_cons ha pa_nil (starEach_ hs _ _)) (bs_ hb _ _ _) (by rw [starEach_ hs]; rfl) hline (starEach_ hs _ _) (nostars _ _ rfl)).conseq fun σ H Q q => ?_
  simp only [tE, evalE, evalEs] at q
  refine tR.bind anti_RD q fun δ d s1 v ρ1 F1 H1 st1 lo1 r1 q1 => ?_
  have hd : ∃ z, d = .str z := by
    cases hr : evalE Z.cf a δ s1 with
    | no => rw [hr] at q1; exact q1.elim
    | ex _ _ => rw [hr] at q1; exact q1.elim
    | ok e s2 =>
      rw [hr] at q1
      simp only [Re.bind_ok] at q1
      cases d with
      | str z => exact ⟨z, rfl⟩
      | _ => exact q1.elim
  obtain ⟨z, rfl⟩ := hd
  cases r1
  refine ⟨rfl, δ, s1, ρ1, F1, st1, lo1, ?_⟩
  rw [Re_assoc] at q1
  refine Post.bind anti_RD q1 fun e s2 w ρ2 F2 H2 e2 st2 r2 q2 => ?_
  simp only [Re.bind_ok] at q2
  obtain ⟨u, hu, q3⟩ := Post.lift q2
  simp only [bmD, Option.bind_eq_some_iff] at hu
  obtain ⟨xs, h1, zs, h2, h3⟩ := hu
  split at h3
  · rename_i hl
    cases h3
    obtain ⟨b, vs, rfl, hq, l⟩ := list_of st2 r2 (listD_ h1)
    have ev := strs_rep l h2
    subst ev
    refine ⟨str z, b, zs.map str, rfl, rfl, .inl hq, ?_, ?_⟩
    · rw [List.map_map, List.length_map]
      have e1 : (Str.length ∘ str) = List.length := by funext w; simp [Function.comp, str_len]
      have e2 : ((fun x : Str => x.length) ∘ str) = List.length := e1
      rw [e2, str_len]
      exact hl
    · have := q3.now st2 (.str (TL.joinL z zs))
      have ej : Txt.join (str z) (zs.map str) = str (TL.joinL z zs) := SX.join_S z zs
      rw [ej]
      exact this
  · cases h3
theorem se_upper {o : ME} {x : Expr} {pa p : Pos} (hb : plainBs x = true) (hline : (pa.endLine == p.line) = true) (ho : PE X x (tE X.K Z o)) : PE X (.Call (.Attribute x "upper" pa) [] [] p) (tE X.K Z (.bm .upper o .nil)) := by
  refine ⟨fun pins s σ H Q I h => ?_⟩
  have h' : tE X.K Z o σ H fun v H1 => ∃ z : List Nat, v = .str (str z) ∧ z.length ≤ 500 ∧ z.all (fun c => decide (c < 128)) = true ∧ Q (.str (str (z.map PyProof.Rows.up1))) H1 := by
    simp only [tE, evalE, evalEs] at h
    refine tR.bind anti_RD h fun δ d s1 v ρ1 F1 H1 st1 lo1 r1 q1 => ?_
    simp only [Re.bind_ok] at q1
    obtain ⟨z, hz, q2⟩ := Post.lift q1
    cases d <;> simp only [bmD] at hz <;> try (cases hz; done)
    rename_i a
    split at hz
    · rename_i hc
      cases hz
      cases r1
      exact ⟨a, rfl, hc.1, hc.2, q2.now st1 (.str _)⟩
    · cases hz
  refine wpAny_Call_method0_late (bs_ hb _ _ _) hline (thn (ho.run pins s σ H _ I h') fun v s1 ⟨x, H1, I1, r1, z, ex, hz, ha, q⟩ => ?_)
  subst ex
  obtain ⟨tz, rfl⟩ : ∃ t, v = Value.str (str z) t := r1
  exact ⟨"str", _, PySem.F.plainAttrs_str, PySem.F.slot_str_upper, PySem.F.type_str_upper, typeIs_str _ _ _, (fun _ e => nomatch e), Calls.callWith_builtin rfl (PySem.evalArgs_none (PySem.SC.upper (PyProof.Rows.short24 (by have := PyProof.Rows.len_upper (str z); rw [str_len] at this; omega)) ⟨.str _, H1, I1.tok _, ⟨_, rfl⟩, by rw [show Txt.upper (str z) = str (z.map PyProof.Rows.up1) from SX.upper_S (by simpa using ha)]; exact q⟩))⟩
theorem se_index {o a : ME} {x y : Expr} {pa p : Pos} (hb : plainBs x = true) (hline : (pa.endLine == p.line) = true) (hs : notStar y = true) (ho : PE X x (tE X.K Z o)) (ha : PE X y (tE X.K Z a)) : PE X (.Call (.Attribute x "index" pa) [y] [] p) (tE X.K Z (.bm .index o (.cons a .nil))) := by
  refine (pe_bm PySem.F.plainAttrs_str PySem.F.slot_str_index PySem.F.type_str_index mt_sindex ho (pa_cons ha pa_nil (starEach_ hs _ _)) (bs_ hb _ _ _) (by rw [starEach_ hs]; rfl) hline (starEach_ hs _ _) (nostars _ _ rfl)).conseq fun σ H Q q => ?_
  simp only [tE, evalE, evalEs] at q
  refine tR.bind anti_RD q fun δ d s1 v ρ1 F1 H1 st1 lo1 r1 q1 => ?_
  have hd : ∃ z, d = .str z := by
    cases hr : evalE Z.cf a δ s1 with
    | no => rw [hr] at q1; exact q1.elim
    | ex _ _ => rw [hr] at q1; exact q1.elim
    | ok e s2 =>
      rw [hr] at q1
      simp only [Re.bind_ok] at q1
      cases d with
      | str z => exact ⟨z, rfl⟩
      | _ => exact q1.elim
  obtain ⟨z, rfl⟩ := hd
  cases r1
  refine ⟨rfl, δ, s1, ρ1, F1, st1, lo1, ?_⟩
  rw [Re_assoc] at q1
  refine Post.bind anti_RD q1 fun e s2 w ρ2 F2 H2 e2 st2 r2 q2 => ?_
  simp only [Re.bind_ok] at q2
  obtain ⟨u, hu, q3⟩ := Post.lift q2
  cases r2 with
  | str b =>
    simp only [bmD] at hu
    split at hu
    · rename_i i rest hocc
      cases hu
      exact ⟨_, _, i, rest, rfl, rfl, hocc, q3.now st2 (.int _)⟩
    · cases hu
  | _ => simp [bmD] at hu
theorem se_dct0 {p : Pos} : PE X (.Dict [] [] p) (tE X.K Z .dct0) := pe_dnewK.conseq fun σ H Q q => by
  obtain ⟨δ, s, ρ, F, st, lo, po⟩ := q
  simp only [evalE] at po
  exact fun p hp => po.fresh st hp (.dct upd_same)
theorem se_dct1 {z : List Nat} {i : Int} {j j' : Nat} {p p1 p2 : Pos} : PE X (.Dict [some (.Constant (.str (str z)) j p1)] [.Constant (.int i) j' p2] p) (tE X.K Z (.dct1 z i)) :=
  (pe_disp (pps_cons (pe_str (x := str z)) (pe_int (i := i)) pps_nil) rfl rfl (by simp) (by simp)).conseq fun σ H Q q => by
  obtain ⟨δ, s, ρ, F, st, lo, po⟩ := q
  simp only [evalE] at po
  intro p hp
  refine ⟨upd_same, [((Sum.inr (str z) : Key), V.int i)], rfl, by simp, ?_⟩
  rw [upd_upd]
  exact po.fresh st hp (.dct upd_same)
omit g in
theorem j_dn {K : PySem.W.Frag} {cm : List Addr} {nm : List Str} {ρ : List Addr} {F : Hp} (hi : Int) (n : Nat) : JOk K cm nm (Itc hi (-1) n) ⟨dnFrom hi n, none⟩ ρ F := by
  intro ρ2 F2 H s hρ hF st _
  have hz : (dnFrom hi n).length = n := by simp [dnFrom]
  refine ⟨fun i hi => by show n ≤ i; rw [hz] at hi; exact hi, fun i hi' => ?_⟩
  have hi2 : i < n := by rw [hz] at hi'; exact hi'
  refine ⟨hi2, fun x H' y => ?_⟩
  obtain ⟨rfl, rfl⟩ := y
  exact ⟨.int (hi + i * -1), F2, by simp [dnFrom, hi2], Ext.refl _ _ _ _, st, .int _⟩
theorem si_r3 {a b c : ME} {tg x y z : Expr} {p q : Pos} (hg : Gl X "range") (hm : X.mg "range" = none) (hs : notStar x = true) (hs2 : notStar y = true) (hs3 : notStar z = true) (ha : PE X x (tE X.K Z a)) (hb : PE X y (tE X.K Z b)) (hc : PE X z (tE X.K Z c)) : PI X tg (.Call (.Name "range" p) [x, y, z] [] q) (tI X.K Z (.r3 a b c)) := by
  refine (pi_range3 hg hm (pa_cons ha (pa_cons hb (pa_cons hc pa_nil (starEach_ hs3 _ _)) (starEach_ hs2 _ _)) (starEach_ hs _ _)) (by rw [starEach_ hs]) (nostars _ _ (by simp [hs2, hs3]))).conseq fun σ H R q => ?_
  simp only [tI, evalI] at q
  refine tR.bind anti_RI q fun δ d s1 v ρ1 F1 H1 st1 lo1 r1 q1 => ?_
  refine ⟨δ, s1, ρ1, F1, st1, lo1, Post.bind anti_RI q1 fun e s2 w ρ2 F2 H2 e2 st2 r2 q2 => ?_⟩
  refine ⟨δ, s2, ρ2, F2, st2, lo1.ext e2, Post.bind anti_RI q2 fun f s3 u ρ3 F3 H3 e3 st3 r3 q3 => ?_⟩
  cases d <;> first | exact q3.elim | skip
  cases e <;> first | exact q3.elim | skip
  cases f <;> first | exact q3.elim | skip
  rename_i i j k
  cases r1; cases r2; cases r3
  dsimp only at q3
  split at q3
  · rename_i hsm
    obtain ⟨⟨s1, s2⟩, ⟨s3, s4⟩, rfl⟩ := hsm
    exact ⟨i, j, -1, (i - j).toNat, rfl, RgC.neg s1 s2 s3 s4, q3.now st3 (j_dn i _)⟩
  · exact q3.elim

/-! ### classes, sets, sorted -/
omit g in
theorem no_field {K : PySem.W.Frag} {nm : List Str} {ρ : List Addr} {F : Hp} {x : Str} : ∀ {fv : List (Str × V)} {fs : List (Nat × D)}, Paired (fun (p : Str × V) (q : Nat × D) => nm[q.1]? = some p.1 ∧ RepD K ρ F p.2 q.2) fv fs → x ∉ nm → fv.lookup x = none
  | _, _, .nil, _ => rfl
  | (pk, pv) :: fv, _, .cons z r, hx => by
    have ne : ¬ x = pk := fun e => hx (by
      have := z.1
      rw [e]
      exact List.mem_of_getElem? this)
    have hb : (x == pk) = false := beq_eq_false_iff_ne.mpr ne
    simp only [List.lookup, hb]
    exact no_field r hx
omit g in
theorem lookup_memB {β : Type} {tb : List (Nat × β)} {c : Nat} {f : β} (h : tb.lookup c = some f) : (c, f) ∈ tb := by
  induction tb with
  | nil => cases h
  | cons e tb ih =>
    obtain ⟨k', b'⟩ := e
    by_cases hk : c = k'
    · subst hk
      simp at h
      subst h
      exact List.mem_cons_self
    · have hk2 : (c == k') = false := beq_eq_false_iff_ne.mpr hk
      simp only [List.lookup, hk2] at h
      exact List.mem_cons_of_mem _ (ih h)
omit g in
theorem insD_ {K : PySem.W.Frag} {cm : List Addr} {nm : List Str} {ρ : List Addr} {F H : Hp} {s : Sto} {d : D} {v : V} {c : Nat} (st : StOk K cm nm ρ F H s) (r : RepD K ρ F v d) (h : insD s d = some c) :
    ∃ a C dx fv, v = .ref a ∧ H a = some (.ins C dx fv) ∧ cm[c]? = some C ∧ ∀ x, x ∉ nm → fv.lookup x = none := by
  unfold insD at h
  split at h
  · rename_i n
    split at h
    · rename_i c' fs hc
      cases h
      cases r with
      | ref e =>
        obtain ⟨o, h1, h2⟩ := st.cell _ _ _ e hc
        cases h2 with
        | I hC hp =>
          exact ⟨_, _, _, _, rfl, h1, hC, fun x hx => no_field hp hx⟩
    · cases h
  · cases h
theorem se_newI {c : Nat} {x : Str} {p q : Pos} (hc : G.cl[c]? = some x) (hg : Gl X x) (hd : (x == ("__debug__" : Str)) = false) : PE X (.Call (.Name x p) [] [] q) (tE X.K Z (.newI c)) := by
  obtain ⟨C, h1, h2, M⟩ := g.cls c x hc
  refine (pe_new00 M hg h2 hd).conseq fun σ H Q q => ?_
  obtain ⟨δ, s, ρ, F, st, lo, po⟩ := q
  simp only [evalE] at po
  intro y dx hy hdx ne
  have hy' : upd H dx (.own y) y = none := by rw [upd_ne (fun e => ne e.symm)]; exact hy
  have sta := st.alloc (o := .own y) hdx
  have stb := sta.alloc (o := .ins C dx []) hy'
  have st2 := stb.cell_new (c := .I c []) upd_same (sta.noF hy') (sta.noC hy') (.I h1 .nil)
  refine po (.ref y) _ F _ (((Ext.alloc (o := .own y) hdx).trans (Ext.alloc (o := .ins C dx []) hy')).cell_new _ hy) st2 (.ref ?_)
  rw [← st.len]; simp
theorem se_isiC {a : ME} {x : Str} {tb : List (Nat × Bool)} {y : Expr} {p q r : Pos} (hg : Gl X "isinstance") (hm : X.mg "isinstance" = none) (hgx : Gl X x) (hdx : (x == ("__debug__" : Str)) = false) (hx : x ∈ G.cl) (htb : ∀ e ∈ tb, (e.1, x, e.2) ∈ G.ic) (hs : notStar y = true) (ha : PE X y (tE X.K Z a)) :
    PE X (.Call (.Name "isinstance" p) [y, .Name x r] [] q) (tE X.K Z (.isiC a x tb)) := by
  obtain ⟨n, hn⟩ := List.mem_iff_getElem?.mp hx
  obtain ⟨D, _, hD, _⟩ := g.cls n x hn
  have hT : PE X (.Name x r) (tC (.ref D)) := pe_glob hgx hD rfl hdx
  have hA : PA X [y, .Name x r] (tCons (tE X.K Z a) (tCons (tC (.ref D)) tNil)) := pa_cons ha (pa_cons hT pa_nil (starEach_ rfl _ _)) (starEach_ hs _ _)
  refine (pe_callB call_isi hg hm boot_isinstance hA (by decide +kernel) (by decide +kernel) (starEach_ hs _ _) (nostars _ _ rfl)).conseq fun σ H Q q => ?_
  simp only [tE, evalE] at q
  refine tR.bind anti_RD q fun δ d s1 v ρ1 F1 H1 st1 lo1 r1 q1 => ?_
  split at q1
  · rename_i c hc
    obtain ⟨z, hz, q2⟩ := Post.lift q1
    rw [Option.map_eq_some_iff] at hz
    obtain ⟨b, hb', rfl⟩ := hz
    obtain ⟨a', C, dx, fv, rfl, h1, h2, _⟩ := insD_ st1 r1 hc
    have hmem : (c, b) ∈ tb := lookup_memB hb'
    obtain ⟨C', D', e1, e2, e3, e4⟩ := g.isi c x b (htb _ hmem)
    rw [h2] at e1; cases e1
    rw [hD] at e2; cases e2
    exact ⟨.ref a', .ref D, .ref C, .ref D, b, rfl, .own _, e3.ty h1, e4, q2.now st1 (.bl _)⟩
  · exact q1.elim
omit g in
theorem mem_setI : ∀ (ns : List Int) (k : Int), k ∈ setI ns ↔ k ∈ ns := by
  have ins : ∀ (l : List Int) (x k : Int), k ∈ insU x l ↔ k = x ∨ k ∈ l := by
    intro l x k
    induction l with
    | nil => simp [insU]
    | cons y l ih =>
      simp only [insU]
      split
      · simp
      · split
        · rename_i e; subst e; simp
        · simp only [List.mem_cons, ih]
          constructor
          · rintro (h | h | h) <;> simp [h]
          · rintro (h | h | h) <;> simp [h]
  intro ns k
  induction ns with
  | nil => simp [setI]
  | cons n ns ih =>
    show k ∈ insU n (setI ns) ↔ _
    rw [ins, ih, List.mem_cons]
omit g in
theorem setI_lt : ∀ ns : List Int, (setI ns).Pairwise (· < ·) := by
  have ins : ∀ (l : List Int) (x : Int), l.Pairwise (· < ·) → (insU x l).Pairwise (· < ·) := by
    intro l x h
    induction l with
    | nil => exact List.pairwise_singleton _ _
    | cons y l ih =>
      obtain ⟨h1, h2⟩ := List.pairwise_cons.mp h
      simp only [insU]
      split
      · rename_i hxy
        exact List.pairwise_cons.mpr ⟨fun z hz => by
          rcases List.mem_cons.mp hz with rfl | hz
          · exact hxy
          · have := h1 z hz; omega, h⟩
      · split
        · exact h
        · rename_i n1 n2
          refine List.pairwise_cons.mpr ⟨fun z hz => ?_, ih h2⟩
          have : z = x ∨ z ∈ l := by
            clear ih h h1 h2
            induction l with
            | nil => simp [insU] at hz; exact .inl hz
            | cons w l ih2 =>
              simp only [insU] at hz
              split at hz
              · rcases List.mem_cons.mp hz with e | e
                · exact .inl e
                · exact .inr e
              · split at hz
                · exact .inr hz
                · rcases List.mem_cons.mp hz with e | e
                  · exact .inr (by rw [e]; exact List.mem_cons_self)
                  · rcases ih2 e with e | e
                    · exact .inl e
                    · exact .inr (List.mem_cons_of_mem _ e)
          rcases this with e | e
          · omega
          · exact h1 z e
  intro ns
  induction ns with
  | nil => exact List.Pairwise.nil
  | cons n ns ih => exact ins _ _ ih
omit g in
theorem setI_nodup (ns : List Int) : (setI ns).Nodup := (setI_lt ns).imp fun h => by omega
omit g in
/-- rising lists of the same ints are one -/
theorem le_uniq : ∀ {l m : List Int}, l.Perm m → l.Pairwise (· ≤ ·) → m.Pairwise (· ≤ ·) → l = m := by
  intro l m p hl hm
  exact List.Perm.eq_of_pairwise (le := (· ≤ ·)) (fun a b _ _ h1 h2 => by omega) hl hm p
omit g in
theorem insI_perm (x : Int) : ∀ l : List Int, (insI x l).Perm (x :: l)
  | [] => List.Perm.refl _
  | y :: l => by
    simp only [insI]
    split
    · exact List.Perm.refl _
    · exact ((insI_perm x l).cons y).trans (List.Perm.swap x y l)
omit g in
theorem sortI_perm : ∀ l : List Int, (sortI l).Perm l
  | [] => List.Perm.refl _
  | x :: l => (insI_perm x (sortI l)).trans ((sortI_perm l).cons x)
omit g in
theorem insI_le (x : Int) : ∀ l : List Int, l.Pairwise (· ≤ ·) → (insI x l).Pairwise (· ≤ ·)
  | [], _ => List.pairwise_singleton _ _
  | y :: l, h => by
    obtain ⟨h1, h2⟩ := List.pairwise_cons.mp h
    simp only [insI]
    split
    · rename_i hxy
      exact List.pairwise_cons.mpr ⟨fun z hz => by
        rcases List.mem_cons.mp hz with rfl | hz
        · exact hxy
        · have := h1 z hz; omega, h⟩
    · rename_i hxy
      refine List.pairwise_cons.mpr ⟨fun z hz => ?_, insI_le x l h2⟩
      rcases List.mem_cons.mp ((insI_perm x l).mem_iff.mp hz) with e | e
      · omega
      · exact h1 z e
omit g in
theorem sortI_le : ∀ l : List Int, (sortI l).Pairwise (· ≤ ·)
  | [] => List.Pairwise.nil
  | x :: l => insI_le x _ (sortI_le l)
omit g in
theorem rep_intL {K : PySem.W.Frag} {ρ : List Addr} {F : Hp} : ∀ ns : List Int, RepL K ρ F (ns.map V.int) (intL ns)
  | [] => .nil
  | n :: ns => .cons (.int n) (rep_intL ns)
omit g in
def ppLt (p q : Int × Int) : Prop := p.1 < q.1 ∨ (p.1 = q.1 ∧ p.2 < q.2)
omit g in
theorem insP_perm (x : Int × Int) : ∀ l : List (Int × Int), (insP x l).Perm (x :: l)
  | [] => List.Perm.refl _
  | y :: l => by
    simp only [insP]
    split
    · exact ((insP_perm x l).cons y).trans (List.Perm.swap x y l)
    · exact List.Perm.refl _
omit g in
theorem sortP_perm : ∀ l : List (Int × Int), (sortP l).Perm l
  | [] => List.Perm.refl _
  | x :: l => (insP_perm x (sortP l)).trans ((sortP_perm l).cons x)
omit g in
theorem insP_le (x : Int × Int) : ∀ l : List (Int × Int), l.Pairwise (fun p q => ¬ ppLt q p) → (insP x l).Pairwise (fun p q => ¬ ppLt q p)
  | [], _ => List.pairwise_singleton _ _
  | y :: l, h => by
    obtain ⟨h1, h2⟩ := List.pairwise_cons.mp h
    simp only [insP]
    split
    · rename_i hxy
      refine List.pairwise_cons.mpr ⟨fun z hz => ?_, insP_le x l h2⟩
      rcases List.mem_cons.mp ((insP_perm x l).mem_iff.mp hz) with e | e
      · subst e; unfold ppLt; omega
      · exact h1 z e
    · rename_i hxy
      exact List.pairwise_cons.mpr ⟨fun z hz => by
        rcases List.mem_cons.mp hz with rfl | hz
        · unfold ppLt; exact hxy
        · have := h1 z hz; unfold ppLt at *; omega, h⟩
omit g in
theorem sortP_le : ∀ l : List (Int × Int), (sortP l).Pairwise (fun p q => ¬ ppLt q p)
  | [] => List.Pairwise.nil
  | x :: l => insP_le x _ (sortP_le l)
omit g in
theorem pp_uniq : ∀ {l m : List (Int × Int)}, l.Perm m → l.Pairwise (fun p q => ¬ ppLt q p) → m.Pairwise (fun p q => ¬ ppLt q p) → l = m := by
  intro l m p hl hm
  exact List.Perm.eq_of_pairwise (le := fun p q => ¬ ppLt q p) (fun a b _ _ h1 h2 => by unfold ppLt at h1 h2; exact Prod.ext (by omega) (by omega)) hl hm p
omit g in
theorem ints_seq {K : PySem.W.Frag} {cm : List Addr} {nm : List Str} {ρ : List Addr} {F H : Hp} {s : Sto} {d : D} {v : V} {ns : List Int} (st : StOk K cm nm ρ F H s) (r : RepD K ρ F v d) (h : (seqD s d).bind intsD = some ns) :
    ∃ a, v = .ref a ∧ (SqL K H a (ns.map V.int) ∨ SqT K H a (ns.map V.int)) := by
  obtain ⟨xs, h1, h2⟩ := Option.bind_eq_some_iff.mp h
  obtain ⟨a, vs, rfl, hq, l⟩ := seq_of st r h1
  have := intsD_rep l h2
  subst this
  exact ⟨a, rfl, hq⟩
theorem pe_setI {a : ME} {z : Expr} {p q : Pos} (hg : Gl X "set") (hm : X.mg "set" = none) (hs : notStar z = true) (ha : PE X z (tE X.K Z a)) :
    PE X (.Call (.Name "set" p) [z] [] q) (tCB (rSetI X.K X.w) (tCons (tE X.K Z a) tNil)) :=
  pe_callTy (cr_setI g.calm) hg hm PyProof.Rows.boot_set (pa_cons ha pa_nil (starEach_ hs _ _)) (by decide +kernel) (by decide +kernel) (starEach_ hs _ _) (nostars _ _ rfl)
theorem se_lenSet {a : ME} {z : Expr} {p q p2 q2 : Pos} (hg : Gl X "len") (hm : X.mg "len" = none) (hg2 : Gl X "set") (hm2 : X.mg "set" = none) (hs : notStar z = true) (ha : PE X z (tE X.K Z a)) :
    PE X (.Call (.Name "len" p) [.Call (.Name "set" p2) [z] [] q2] [] q) (tE X.K Z (.lenSet a)) := by
  refine (pe_callB cr_lenSet hg hm boot_len (pa_cons (pe_setI g hg2 hm2 hs ha) pa_nil (starEach_ rfl _ _)) (by decide +kernel) (by decide +kernel) (starEach_ rfl _ _) (nostars _ _ rfl)).conseq fun σ H Q q => ?_
  simp only [tE, evalE] at q
  refine tR.bind anti_RD q fun δ d s1 v ρ1 F1 H1 st1 lo1 r1 q1 => ?_
  split at q1
  · rename_i ns hns
    split at q1
    · rename_i hl
      obtain ⟨a', rfl, hq⟩ := ints_seq st1 r1 hns
      refine ⟨a', ns, rfl, hq, hl, fun p' n hp => ?_⟩
      refine ⟨p', _, n, setI ns, rfl, upd_same, setI_nodup ns, fun k => by rw [mem_setI]; simp, ?_⟩
      exact q1 (.int _) ρ1 F1 _ (Ext.alloc hp) (st1.alloc hp) (.int _)
    · exact q1.elim
  · exact q1.elim
theorem sf_sortSet {a : ME} {z : Expr} {p q p2 q2 : Pos} (hg : Gl X "sorted") (hm : X.mg "sorted" = none) (hg2 : Gl X "set") (hm2 : X.mg "set" = none) (hs : notStar z = true) (ha : PE X z (tE X.K Z a)) :
    PE X (.Call (.Name "sorted" p) [.Call (.Name "set" p2) [z] [] q2] [] q) (tF X.K Z (.bf .sortSet a)) := by
  refine (pe_callB (cr_sortedSetO g.calm) hg hm boot_sorted (pa_cons (pe_setI g hg2 hm2 hs ha) pa_nil (starEach_ rfl _ _)) (by decide +kernel) (by decide +kernel) (starEach_ rfl _ _) (nostars _ _ rfl)).conseq fun σ H Q q => ?_
  simp only [tF, evalF] at q
  refine tR.bind anti_RO q fun δ d s1 v ρ1 F1 H1 st1 lo1 r1 q1 => ?_
  split at q1
  · rename_i ns hns
    split at q1
    · rename_i hl
      obtain ⟨a', rfl, hq⟩ := ints_seq st1 r1 hns
      refine ⟨a', ns, rfl, hq, hl, fun p' n hp => ?_⟩
      refine ⟨p', _, n, rfl, upd_same, fun ms p'' hnd hle hmem hp'' => ?_⟩
      have e : ms = setI ns := le_uniq ((List.perm_ext_iff_of_nodup hnd (setI_nodup ns)).mpr fun k => by rw [hmem, mem_setI]; simp) hle ((setI_lt ns).imp fun h => by omega)
      subst e
      have st2 := st1.alloc (o := SetO X.w p' (fun j => decide (j ∈ ns)) n) hp
      exact q1 (.ref p'') ρ1 F1 _ ((Ext.alloc hp).trans (Ext.alloc hp'')) (st2.alloc hp'') ⟨p'', _, rfl, upd_same, rep_intL _, st2.noF hp'', st2.noC hp'', by
        by_cases e : p'' = p'
        · subst e; exact hp
        · rw [upd_ne e] at hp''; exact hp''⟩
    · exact q1.elim
  · exact q1.elim
omit g in
theorem pairs_rep {K : PySem.W.Frag} {ρ : List Addr} {F : Hp} : ∀ {vs : List V} {ds : List D} {ps : List (Int × Int)}, RepL K ρ F vs ds → pairsD ds = some ps → Paired (fun v (p : Int × Int) => ∃ t, v = V.ref t ∧ SqT K F t [.int p.1, .int p.2]) vs ps
  | _, _, _, .nil, h => by cases h; exact .nil
  | _, _, ps, .cons (d := d) (ds := ds) r l, h => by
    unfold pairsD at h
    split at h
    · rename_i e; cases e
    · rename_i i j r' e
      cases e
      rw [Option.map_eq_some_iff] at h
      obtain ⟨ms, h1, rfl⟩ := h
      refine .cons ?_ (pairs_rep l h1)
      cases r with
      | tup hq l2 =>
        cases l2 with
        | cons r1 l3 =>
          cases l3 with
          | cons r2 l4 =>
            cases l4
            cases r1; cases r2
            exact ⟨_, rfl, hq⟩
    · cases h

omit g in
theorem Paired.zip_mem {α β : Type} {R : α → β → Prop} : ∀ {l : List α} {m : List β}, Paired R l m → ∀ z ∈ l.zip m, R z.1 z.2
  | _, _, .nil, z, h => by cases h
  | _, _, .cons r p, z, h => by
    rcases List.mem_cons.mp (by simpa using h) with e | e
    · subst e; exact r
    · exact Paired.zip_mem p z e
omit g in
theorem Paired.zip_fst {α β : Type} {R : α → β → Prop} : ∀ {l : List α} {m : List β}, Paired R l m → (l.zip m).map (·.1) = l ∧ (l.zip m).map (·.2) = m
  | _, _, .nil => ⟨rfl, rfl⟩
  | _, _, .cons r p => by
    obtain ⟨a, b⟩ := Paired.zip_fst p
    exact ⟨by simp [a], by simp [b]⟩
omit g in
theorem rep_pairL {K : PySem.W.Frag} {ρ : List Addr} {F : Hp} : ∀ {zs : List (V × (Int × Int))}, (∀ z ∈ zs, ∃ t, z.1 = V.ref t ∧ SqT K F t [.int z.2.1, .int z.2.2]) → RepL K ρ F (zs.map (·.1)) (pairL (zs.map (·.2)))
  | [], _ => .nil
  | z :: zs, h => by
    obtain ⟨t, e, h1⟩ := h z List.mem_cons_self
    obtain ⟨v, p⟩ := z
    simp only at e
    subst e
    exact .cons (.tup h1 (.cons (.int _) (.cons (.int _) .nil))) (rep_pairL fun z hz => h z (List.mem_cons_of_mem _ hz))
theorem sf_sorted {a : ME} {z : Expr} {p q : Pos} (hg : Gl X "sorted") (hm : X.mg "sorted" = none) (hs : notStar z = true) (ha : PE X z (tE X.K Z a)) :
    PE X (.Call (.Name "sorted" p) [z] [] q) (tF X.K Z (.bf .sorted a)) := by
  refine (pe_callB (CallR.or cr_sortedI cr_sortedPL) hg hm boot_sorted (pa_cons ha pa_nil (starEach_ hs _ _)) (by decide +kernel) (by decide +kernel) (starEach_ hs _ _) (nostars _ _ rfl)).conseq fun σ H Q q => ?_
  simp only [tF, evalF] at q
  refine tR.bind anti_RO q fun δ d s1 v ρ1 F1 H1 st1 lo1 r1 q1 => ?_
  split at q1
  · rename_i ys hys
    obtain ⟨xs, h1, h2⟩ := Option.bind_eq_some_iff.mp hys
    obtain ⟨a', vs, rfl, hq, l⟩ := list_of st1 r1 (listD_ h1)
    unfold sortD at h2
    split at h2
    · rename_i ns hns
      cases h2
      have e := intsD_rep l hns
      subst e
      refine .inl ⟨a', ns, rfl, hq, fun ms p' hp hle hn => ?_⟩
      have e : ms = sortI ns := le_uniq (hp.trans (sortI_perm ns).symm) hle (sortI_le ns)
      subst e
      exact q1.owned st1 hn (rep_intL _)
    · rw [Option.map_eq_some_iff] at h2
      obtain ⟨ps, h3, rfl⟩ := h2
      have pr := pairs_rep l h3
      obtain ⟨z1, z2⟩ := Paired.zip_fst pr
      refine .inr ⟨a', vs.zip ps, rfl, by rw [z1]; exact hq, fun z hz => ?_, fun ys p' hp hle hn => ?_⟩
      · obtain ⟨t, e, h⟩ := Paired.zip_mem pr z hz
        exact ⟨t, e, Same.sqT st1.sub h⟩
      · have e : ys.map (·.2) = sortP ps := by
          have hp2 := hp.map (·.2)
          rw [z2] at hp2
          refine pp_uniq (hp2.trans (sortP_perm ps).symm) (List.pairwise_map.mpr (hle.imp fun h => ?_)) (sortP_le ps)
          intro h'
          exact (SrtO.lexB_no.mp h) h'
        rw [← e] at q1
        exact q1.owned st1 hn (rep_pairL fun z hz => Paired.zip_mem pr z (hp.mem_iff.mp hz))
  · exact q1.elim
omit g in
theorem few_of {es : List Expr} {p : Pos} {env : Env} (hs : es.all notStar = true) (hf : es.length < 20) : ((backTo p (starEach es env)).all (fun x => !x.1) && (backToKw p (keywordEach [] env)).all (fun x => x.1.isSome) && decide (es.length + ([] : List Keyword).length + (if ([] : List Keyword).isEmpty then 0 else 1) < 30)) = true := by
  have h1 : ∀ es : List Expr, es.all notStar = true → (backTo p (starEach es env)).all (fun x => !x.1) = true := by
    intro es
    induction es with
    | nil => intro _; rfl
    | cons e es ih =>
      intro hs
      have h : notStar e = true ∧ es.all notStar = true := by simpa using hs
      rw [starEach_ h.1]
      show (!false && (backTo p (starEach es env)).all (fun x => !x.1)) = true
      rw [ih h.2]; rfl
  rw [h1 es hs]
  have h2 : decide (es.length + ([] : List Keyword).length + (if ([] : List Keyword).isEmpty then 0 else 1) < 30) = true := decide_eq_true (by simp; omega)
  rw [h2]
  rfl
theorem sf_meth {tb : List (Nat × Nat)} {o : ME} {x : Str} {y : Expr} {ms : MEs} {es : List Expr} {pa p : Pos} (hb : plainBs y = true) (hline : (pa.endLine == p.line) = true) (hfew : es.length < 20) (hs : es.all notStar = true) (htb : ∀ e ∈ tb, (e.1, x, e.2) ∈ G.mt) (hx : x ∉ G.nm)
    (ho : PE X y (tE X.K Z o)) (h : PA X es (tEs X.K Z ms)) (hms : es = [] → ms = .nil) : PE X (.Call (.Attribute y x pa) es [] p) (tF X.K Z (.meth tb o x ms)) := by
  have main : PE X (.Call (.Attribute y x pa) es [] p) (tMethD X k x (tE X.K Z o) (tEs X.K Z ms)) := by
    cases es with
    | nil =>
      have e := hms rfl
      subst e
      refine (pe_methD0 ho g.room (bs_ hb _ _ _) hline).conseq fun σ H Q q => ?_
      obtain ⟨δ, s, ρ, F, st, lo, po⟩ := q
      refine ⟨δ, s, ρ, F, st, lo, ?_⟩
      cases hr : evalE Z.cf o δ s with
      | no => rw [hr] at po; exact po.elim
      | ex _ _ => rw [hr] at po; exact po.elim
      | ok d s1 =>
        rw [hr] at po
        intro v ρ1 F1 H1 e1 st1 r1
        obtain ⟨a, C, dx, fs, f, fd, ps, sp, ex, ea, l, c, hm, F', hb', q⟩ := po v ρ1 F1 H1 e1 st1 r1
        obtain ⟨δ2, s2, ρ2, F2, st2, lo2, po2⟩ := q
        refine ⟨a, C, dx, fs, f, fd, ps, sp, ex, ea, l, c, hm, F', hb', ?_⟩
        simp only [evalEs] at po2
        exact po2.now st2 .nil
    | cons e es =>
      have h1 : notStar e = true ∧ es.all notStar = true := by simpa using hs
      exact pe_methD ho g.room h (bs_ hb _ _ _) (few_of hs hfew) hline (starEach_ h1.1 _ _) (nostars _ _ h1.2)
  refine main.conseq fun σ H Q q => ?_
  simp only [tF, evalF] at q
  refine tR.bind anti_RO q fun δ d s1 v ρ1 F1 H1 st1 lo1 r1 q1 => ?_
  split at q1
  · rename_i f hf
    obtain ⟨c, hc, hl⟩ := Option.bind_eq_some_iff.mp hf
    obtain ⟨a, C, dx, fv, rfl, h1, h2, h3⟩ := insD_ st1 r1 hc
    obtain ⟨C', a', fd, ps, e1, c1, m1, b1, F', hno⟩ := g.mth c x f (htb _ (lookup_memB hl))
    rw [h2] at e1; cases e1
    refine ⟨a, C, dx, fv, a', fd, ps, _, rfl, h1, h3 x (by rw [g.nms]; exact hx), c1, m1, F', b1, ?_⟩
    refine ⟨δ, s1, ρ1, F1, st1, lo1, Post.bind anti_RO q1 fun ds s2 vs ρ2 F2 H2 e2 st2 r2 q2 => ?_⟩
    have r2 : RepL X.K ρ2 F2 vs ds := r2
    have rr : RepL X.K ρ2 F2 (.ref a :: vs) (d :: ds) := .cons (r1.mono e2.pre e2.froz) r2
    refine ⟨ρ2, F2, s2, d :: ds, ?_, st2, rr, q2⟩
    rw [rr.length]
    by_cases hl : (d :: ds).length = ps.length
    · exact hl
    · rw [hno (d :: ds) s2 hl] at q2; exact q2.elim
  · exact q1.elim

omit g in
theorem j_zip {K : PySem.W.Frag} {cm : List Addr} {nm : List Str} {ρ : List Addr} {F : Hp} {a b : Addr} {vs ws : List V} {xs ys : List D} (hq : SqL K F a vs) (l : RepL K ρ F vs xs) (hq2 : SqL K F b ws) (l2 : RepL K ρ F ws ys) : JOk K cm nm (Itz K a b) ⟨zipL xs ys, none⟩ ρ F := by
  intro ρ2 F2 H s hρ hF st _
  have hH : SqL K H a vs := Same.seq st.sub (Same.seq hF hq)
  have hH2 : SqL K H b ws := Same.seq st.sub (Same.seq hF hq2)
  have hz : (zipL xs ys).length = min xs.length ys.length := by simp [zipL]
  refine ⟨fun i hi => ⟨vs, ws, hH, hH2, by rw [l.length, l2.length]; rw [hz] at hi; omega⟩, fun i hi => ?_⟩
  rw [hz] at hi
  have hi1 : i < xs.length := by omega
  have hi2 : i < ys.length := by omega
  obtain ⟨v, hv, rv⟩ := l.get (i := i) (d := xs[i]) (by simp [hi1])
  obtain ⟨w, hw, rw'⟩ := l2.get (i := i) (d := ys[i]) (by simp [hi2])
  refine ⟨⟨vs, ws, v, w, hH, hH2, hv, hw⟩, fun x H' y => ?_⟩
  obtain ⟨T, x1, y1, rfl, hT, rfl, e1, e2⟩ := y
  have e1 := e1 vs hH
  have e2 := e2 ws hH2
  rw [hv] at e1
  rw [hw] at e2
  cases e1
  cases e2
  have sm : Same F2 (upd F2 T (.tup [v, w])) := fun b u hb => by rw [upd_ne (ne_of_none hb (st.noF hT))]; exact hb
  refine ⟨.tup [xs[i], ys[i]], upd F2 T (.tup [v, w]), ?_, Ext.new st.sub hT, (st.alloc hT).freeze upd_same (st.noF hT) (st.noC hT), .tup (SqT.of upd_same) (.cons ((rv.mono hρ hF).mono (List.prefix_refl _) sm) (.cons ((rw'.mono hρ hF).mono (List.prefix_refl _) sm) .nil))⟩
  simp [zipL, List.getElem?_zipWith, hi1, hi2]
theorem si_zip {a b : ME} {tg x y : Expr} {p q : Pos} (ht : tupE tg = true) (hg : Gl X "zip") (hm : X.mg "zip" = none) (hs : notStar x = true) (hs2 : notStar y = true) (ha : PE X x (tE X.K Z a)) (hb : PE X y (tE X.K Z b)) : PI X tg (.Call (.Name "zip" p) [x, y] [] q) (tI X.K Z (.zip a b)) := by
  cases tg <;> first | cases ht | skip
  refine (pi_zip hg hm (pa_cons ha (pa_cons hb pa_nil (starEach_ hs2 _ _)) (starEach_ hs _ _)) (starEach_ hs _ _) (nostars _ _ (by simp [hs2]))).conseq fun σ H R q => ?_
  simp only [tI, evalI] at q
  refine tR.bind anti_RI q fun δ d s1 v ρ1 F1 H1 st1 lo1 r1 q1 => ?_
  refine ⟨δ, s1, ρ1, F1, st1, lo1, Post.bind anti_RI q1 fun e s2 w ρ2 F2 H2 e2 st2 r2 q2 => ?_⟩
  cases d <;> first | exact q2.elim | skip
  cases e <;> first | exact q2.elim | skip
  rename_i xs ys
  have r1' := RepD.mono e2.pre e2.froz r1
  cases r1' with
  | lst hq l =>
    cases r2 with
    | lst hq2 l2 => exact ⟨_, _, _, _, rfl, Same.seq st2.sub hq, Same.seq st2.sub hq2, q2.now st2 (j_zip hq l hq2 l2)⟩
omit g in
theorem rep_upFrom {K : PySem.W.Frag} {ρ : List Addr} {F : Hp} (lo : Int) : ∀ n : Nat, RepL K ρ F ((List.range n).map fun i => V.int (lo + (i : Nat))) (upFrom lo n) := by
  intro n
  unfold upFrom
  induction List.range n with
  | nil => exact .nil
  | cons a l ih => exact .cons (.int _) ih
theorem sf_lrange {a : ME} {z : Expr} {p q p2 q2 : Pos} (hg : Gl X "list") (hm : X.mg "list" = none) (hg2 : Gl X "range") (hm2 : X.mg "range" = none) (hs : notStar z = true) (ha : PE X z (tE X.K Z a)) :
    PE X (.Call (.Name "list" p) [.Call (.Name "range" p2) [z] [] q2] [] q) (tF X.K Z (.lrange a)) := by
  refine (pe_listRg g.calm hg hm (prg_1 hg2 hm2 ha (starEach_ hs _ _)) (starEach_ rfl _ _)).conseq fun σ H Q q => ?_
  simp only [tF, evalF] at q
  refine tR.bind anti_RO q fun δ d s1 v ρ1 F1 H1 st1 lo1 r1 q1 => ?_
  cases d <;> first | exact q1.elim | skip
  rename_i j
  cases r1
  dsimp only at q1
  split at q1
  · rename_i hj
    refine ⟨j, rfl, ⟨by omega, by omega, by omega, by omega, by omega⟩, fun p' hp => ?_⟩
    have := q1.owned st1 hp (rep_upFrom 0 j.toNat)
    have e : rgV 0 j = (List.range j.toNat).map fun i => V.int (0 + (i : Nat)) := by unfold rgV; rw [Int.sub_zero]
    rw [e]
    exact this
  · exact q1.elim
/-! ### sorted by a def as key -/
omit g in
theorem sortOk_ {ks : List D} (h : sortOk ks = true) : (∀ k ∈ ks, k.plain = true ∧ k.dep ≤ 30) ∧ (∀ a ∈ ks, ∀ b ∈ ks, D.cok a b = true) ∧ keyHom ks = true := by
  unfold sortOk at h
  simp only [Bool.and_eq_true, List.all_eq_true, decide_eq_true_eq] at h
  exact ⟨h.1.1, h.1.2, h.2⟩
omit g in
theorem mem_pyL : ∀ {ks : List D} {d : PyData}, d ∈ D.pyL ks → ∃ k ∈ ks, d = k.py
  | k :: ks, d, h => by
    rcases List.mem_cons.mp (show d ∈ k.py :: D.pyL ks from h) with rfl | h
    · exact ⟨k, List.mem_cons_self, rfl⟩
    · obtain ⟨k', h1, h2⟩ := mem_pyL h
      exact ⟨k', List.mem_cons_of_mem _ h1, h2⟩
  | [], d, h => by cases h
omit g in
theorem plainL_all {ks : List D} (h : ∀ k ∈ ks, k.plain = true) : D.plainL ks = true := by
  induction ks with
  | nil => rfl
  | cons k ks ih => simp only [D.plainL, h k List.mem_cons_self, ih fun a ha => h a (List.mem_cons_of_mem _ ha), Bool.and_self]
omit g in
theorem kin_of {ks : List D} (h : keyHom ks = true) : OrdD.Kin (D.pyL ks) := by
  unfold keyHom at h
  simp only [Bool.or_eq_true, List.all_eq_true] at h
  rcases h with ((h | h) | h) | h
  · refine .inl ⟨.type "int", by decide, by decide, fun d hd => ?_⟩
    obtain ⟨k, hk, rfl⟩ := mem_pyL hd
    have := h k hk
    cases k <;> first | (cases this; done) | skip
    exact ⟨rfl, fun t z => by cases z⟩
  · refine .inl ⟨.type "str", by decide, by decide, fun d hd => ?_⟩
    obtain ⟨k, hk, rfl⟩ := mem_pyL hd
    have := h k hk
    cases k <;> first | (cases this; done) | skip
    exact ⟨rfl, fun t z => by cases z⟩
  · refine .inr ⟨.type "int", by decide, by decide, fun d hd => ?_⟩
    obtain ⟨k, hk, rfl⟩ := mem_pyL hd
    have := h k hk
    unfold tupIntD at this
    split at this
    · rename_i i r
      exact ⟨.int i, D.pyL r, rfl, rfl, fun t z => by cases z⟩
    · cases this
  · refine .inr ⟨.type "str", by decide, by decide, fun d hd => ?_⟩
    obtain ⟨k, hk, rfl⟩ := mem_pyL hd
    have := h k hk
    unfold tupStrD at this
    split at this
    · rename_i i r
      exact ⟨.str (Mn.str i), D.pyL r, rfl, rfl, fun t z => by cases z⟩
    · cases this
omit g in
theorem zip_each {K : PySem.W.Frag} {ρ : List Addr} {F : Hp} : ∀ {vs : List V} {xs ks : List D}, RepL K ρ F vs xs → ks.length = xs.length → PySem.W.EachIs (fun (p : PyData × V) (q : D × D) => p.1 = q.1.py ∧ RepD K ρ F p.2 q.2) ((D.pyL ks).zip vs) (ks.zip xs)
  | _, _, [], .nil, _ => .nil
  | _, _, [], .cons _ _, h => by simp at h
  | _, _, _ :: _, .nil, h => by simp at h
  | _, _, k :: ks, .cons h l, e => .cons ⟨rfl, h⟩ (zip_each l (by simpa using e))
omit g in
theorem each_repL {K : PySem.W.Frag} {ρ : List Addr} {F : Hp} : ∀ {ps : List (PyData × V)} {qs : List (D × D)}, PySem.W.EachIs (fun (p : PyData × V) (q : D × D) => p.1 = q.1.py ∧ RepD K ρ F p.2 q.2) ps qs → RepL K ρ F (ps.map (·.2)) (qs.map (·.2))
  | _, _, .nil => .nil
  | _, _, .cons h t => .cons h.2 (each_repL t)
omit g in
theorem rep_sortKD {K : PySem.W.Frag} {ρ : List Addr} {F : Hp} {vs : List V} {xs ks : List D} (l : RepL K ρ F vs xs) (e : ks.length = xs.length) : RepL K ρ F ((((D.pyL ks).zip vs).mergeSort (OrdD.keyLe fun q => q.1)).map (·.2)) (sortKD ks xs) := by
  have z := zip_each l e
  refine each_repL (PySem.W.sort_each z fun p hp q hq => ?_)
  have h1 := (z.zip p hp).1
  have h2 := (z.zip q hq).1
  show (!PySem.W.dataLt q.1.1 p.1.1) = (!PySem.W.dataLt q.2.1.py p.2.1.py)
  rw [h1, h2]
omit g in
theorem pyL_length : ∀ ks : List D, (D.pyL ks).length = ks.length
  | [] => rfl
  | k :: ks => congrArg Nat.succ (pyL_length ks)
omit g in
theorem keys_run {K : PySem.W.Frag} {cm : List Addr} {nm : List Str} {cf : Nat → List D → Sto → Re O} {f : Nat} {sp : Sp} (hsp : ∀ (ρ : List Addr) (F H : Hp) (s : Sto) (v : V) (d : D) (Q : VK), StOk K cm nm ρ F H s → RepD K ρ F v d → Post K cm nm (RO K) (cf f [d] s) ρ F H s Q → sp [v] H Q fun _ _ _ => False) {C : List V → Hp → Prop} {Q : VK} {R : List D → Sto → Re O} :
    ∀ (xs : List D) (vs : List V) (acc : List V) (accD : List D) (ρ : List Addr) (F H : Hp) (s : Sto), StOk K cm nm ρ F H s → RepL K ρ F vs xs → RepL K ρ F acc accD → Post K cm nm (RO K) ((keysGo cf f xs s).bind fun ks s2 => R (accD ++ ks) s2) ρ F H s Q →
      (∀ (ks : List D) (kv : List V) (ρ2 : List Addr) (F2 H2 : Hp) (s2 : Sto), ρ <+: ρ2 → Same F F2 → StOk K cm nm ρ2 F2 H2 s2 → RepL K ρ2 F2 kv ks → ks.length = accD.length + xs.length → Post K cm nm (RO K) (R ks s2) ρ2 F2 H2 s2 Q → C kv H2) → keysT sp vs acc H C
  | [], _, acc, accD, ρ, F, H, s, st, .nil, ra, po, k => by
    simp only [keysGo, Re.bind_ok, List.append_nil] at po
    exact k accD acc ρ F H s (List.prefix_refl _) (Same.refl _) st ra (by simp) po
  | x :: xs, _, acc, accD, ρ, F, H, s, st, .cons (v := v) (vs := vs) r l, ra, po, k => by
    refine hsp ρ F H s v x _ st r ?_
    simp only [keysGo] at po
    have po' : Post K cm nm (RO K) ((cf f [x] s).bind fun o s1 => (match o with | .v d => (keysGo cf f xs s1).bind fun ds s2 => .ok (d :: ds) s2 | _ => .no : Re (List D)).bind fun ks s2 => R (accD ++ ks) s2) ρ F H s Q := by
      cases hr : cf f [x] s with
      | no => rw [hr] at po; exact po
      | ex a b => rw [hr] at po; exact po
      | ok a b => rw [hr] at po; exact po
    refine Post.bind anti_RO po' fun o s1 b ρ1 F1 H1 e1 st1 r1 q1 => ?_
    cases o with
    | l _ => exact q1.elim
    | x _ _ => exact q1.elim
    | v d =>
      refine keys_run hsp (Q := Q) (R := R) xs vs (acc ++ [b]) (accD ++ [d]) ρ1 F1 H1 s1 st1 (l.mono e1.pre e1.froz) ((ra.mono e1.pre e1.froz).append (.cons r1 .nil)) ?_ fun ks kv ρ2 F2 H2 s2 p2 m2 st2 r2 hl q2 => k ks kv ρ2 F2 H2 s2 (e1.pre.trans p2) (e1.froz.trans m2) st2 r2 (by rw [hl]; simp only [List.length_append, List.length_cons, List.length_nil]; omega) q2
      dsimp only at q1
      cases hk : keysGo cf f xs s1 with
      | no => rw [hk] at q1; exact q1
      | ex a b => rw [hk] at q1; exact q1
      | ok ks s2 =>
        rw [hk] at q1
        simp only [Re.bind_ok] at q1 ⊢
        rw [List.append_assoc]
        exact q1
theorem sf_sortK {f : Nat} {a : ME} {y : Str} {x : Expr} {p q kp pf : Pos} (hf : G.fn[f]? = some y) (hgf : Gl X y) (hdf : (y == ("__debug__" : Str)) = false) (hg : Gl X "sorted") (hm : X.mg "sorted" = none) (hx : notStar x = true) (ha : PE X x (tE X.K Z a)) :
    PE X (.Call (.Name "sorted" p) [x] [⟨some (Str.ofString "key"), .Name y pf, kp⟩] q) (tF X.K Z (.sortK f a)) := by
  obtain ⟨fa, fd, ps, hmf, hkf, hb, F, hno⟩ := g.fn f y hf
  have hx1 : [x].all notStar = true := by simpa using hx
  have hkw : PE X (.Name y pf) (tC (.ref fa)) := pe_glob hgf hmf (show RelV (.ref fa) (.ref fa) from rfl) hdf
  refine (pe_callBK (cr_sortKey F hb g.room2.in1.in1) hg hm (by decide +kernel) (pa_cons ha pa_nil (starEach_ hx _ _)) (pk_cons hkw pk_nil) (by decide +kernel) (by decide +kernel) (congrArg (backTo q) (starEach_ hx _ _)) (nostars _ _ hx1)).conseq fun σ H Q h => ?_
  simp only [tF, evalF] at h
  refine tR.bind anti_RO h fun δ d s1 v ρ1 F1 H1 st1 lo1 r1 q1 => ?_
  have r1 : RepD X.K ρ1 F1 v d := r1
  split at q1
  case h_2 => exact q1.elim
  rename_i xs hxs
  obtain ⟨a', vs, rfl, hq, l⟩ := list_of st1 r1 (listD_ hxs)
  refine ⟨a', vs, rfl, rfl, hq, ?_⟩
  have one : ∀ (d : D) (s : Sto), Z.cf f [d] s = .no ∨ ([d] : List D).length = ps.length := fun d s => by
    by_cases hl : ([d] : List D).length = ps.length
    · exact .inr hl
    · exact .inl (hno [d] s hl)
  refine keys_run (cf := Z.cf) (f := f) (Q := Q) (R := fun ks s2 => if sortOk ks = true then .ok (.l (sortKD ks xs)) s2 else .no) (fun ρ F H s v d Q st r po => ?_) xs vs [] [] ρ1 F1 H1 s1 st1 l .nil q1 fun ks kv ρ2 F2 H2 s2 p2 m2 st2 r2 hl q2 => ?_
  · rcases one d s with hn | hn
    · rw [hn] at po; exact po.elim
    · exact ⟨ρ, F, s, [d], hn, st, .cons r .nil, po⟩
  · split at q2
    · rename_i ok
      obtain ⟨o1, o2, o3⟩ := sortOk_ ok
      have hl' : ks.length = xs.length := by simpa using hl
      refine ⟨D.pyL ks, by rw [pyL_length, hl', l.length], r2.dp st2.sub (plainL_all fun k hk => (o1 k hk).1), fun d hd => ?_, fun d hd d' hd' => ?_, kin_of o3, fun d hd => ?_, fun p hp => ?_⟩
      · obtain ⟨k, hk, rfl⟩ := mem_pyL hd
        exact plain_py k (o1 k hk).1
      · obtain ⟨k, hk, rfl⟩ := mem_pyL hd
        obtain ⟨k', hk', rfl⟩ := mem_pyL hd'
        rw [cok_py k k' (o1 k hk).1 (o1 k' hk').1]
        exact o2 k hk k' hk'
      · obtain ⟨k, hk, rfl⟩ := mem_pyL hd
        rw [dep_py]
        exact (o1 k hk).2
      · exact q2.owned st2 hp (rep_sortKD (l.mono p2 m2) hl')
    · exact q2.elim
end
end Mn
set_option Elab.async false
set_option linter.all false
set_option maxRecDepth 100000
set_option maxHeartbeats 4000000
/-! The small language is sound: targets, comprehensions. -/
namespace Mn
open PySem L2 PyProof.Rows

theorem wipe_get (σ : L2.St) (j : Nat) : ∀ own : List Nat, (wipe σ own)[j]? = if j ∈ own then (if j < σ.length then some none else none) else σ[j]?
  | [] => by simp [wipe]
  | i :: own => by
    show ((wipe σ own).set i none)[j]? = _
    by_cases q : i = j
    · subst q
      by_cases hl : i < σ.length
      · rw [List.getElem?_set_self (by rw [wipe_length]; exact hl)]; simp [hl]
      · rw [List.getElem?_eq_none (by rw [List.length_set, wipe_length]; omega)]; simp [hl]
    · rw [List.getElem?_set_ne q, wipe_get σ j own]
      have : (j ∈ i :: own) ↔ j ∈ own := by
        rw [List.mem_cons]
        exact ⟨fun h => h.resolve_left fun e => q e.symm, .inr⟩
      simp only [this]
theorem wipe_set (σ : L2.St) (i : Nat) (v : Option V) (own : List Nat) (h : i ∈ own) : wipe (σ.set i v) own = wipe σ own := by
  apply List.ext_getElem?
  intro j
  rw [wipe_get, wipe_get, List.length_set]
  by_cases hj : j ∈ own
  · rw [if_pos hj, if_pos hj]
  · rw [if_neg hj, if_neg hj, List.getElem?_set_ne (fun e => hj (by rw [← e]; exact h))]

def gsN : List Nat → TGs
  | [] => gNil
  | i :: is => gCons (gName i) (gsN is)
def gTm (K : PySem.W.Frag) : MT → TG
  | .one i => gName i
  | .tup is => gTup K is.length (gsN is)
  | .two i is => gTup K 2 (gCons (gName i) (gCons (gTup K is.length (gsN is)) gNil))
def slotsT : MT → List Nat
  | .one i => [i]
  | .tup is => is
  | .two i is => i :: is

section
variable {X : Cx}
theorem pg_one {N : List Str} {sc : Scope} {own : List Nat} {i : Nat} {e : Expr} (hN : X.N = N) (nd : X.N.Nodup) (fnc : ∀ x, locB sc x = true → Loc X.env.scope x ∧ (X.fn x = true ∨ X.env.scope.names.lookup x = some .local)) (h : tgB N sc own i e = true) :
    PG X e (gName i) ∧ i ∈ own ∧ ∃ x p, e = .Name x p := by
  subst hN
  unfold tgB at h
  split at h
  · rename_i x hx
    simp only [Bool.and_eq_true, decide_eq_true_eq, List.contains_iff_mem] at h
    obtain ⟨⟨h1, h2⟩, h3⟩ := h
    obtain ⟨p, rfl⟩ := asName_ hx
    refine ⟨?_, h3, _, _, rfl⟩
    obtain ⟨q1, q2⟩ := fnc x h2
    exact pg_name nd h1 q1 q2
  · cases h
theorem pgs_many {N : List Str} {sc : Scope} {own : List Nat} (hN : X.N = N) (nd : X.N.Nodup) (fnc : ∀ x, locB sc x = true → Loc X.env.scope x ∧ (X.fn x = true ∨ X.env.scope.names.lookup x = some .local)) : ∀ {is : List Nat} {es : List Expr}, tgsB N sc own is es = true →
    PGs X es (gsN is) ∧ (∀ i ∈ is, i ∈ own) ∧ (assignEach es X.env).length = is.length ∧ (assignEach es X.env).findIdx? (·.1) = none
  | [], [], _ => ⟨pgs_nil, fun _ h => by simp at h, rfl, rfl⟩
  | i :: is, e :: es, h => by
    have h' : tgB N sc own i e = true ∧ tgsB N sc own is es = true := (Bool.and_eq_true _ _).mp h
    obtain ⟨p1, m1, x, p, rfl⟩ := pg_one hN nd fnc h'.1
    obtain ⟨p2, m2, l2, f2⟩ := pgs_many hN nd fnc h'.2
    refine ⟨pgs_cons p1 p2, fun j hj => ?_, ?_, ?_⟩
    · rcases List.mem_cons.mp hj with rfl | hj
      · exact m1
      · exact m2 j hj
    · show (assignEach es X.env).length + 1 = is.length + 1
      rw [l2]
    · show ((false, _) :: assignEach es X.env).findIdx? (·.1) = none
      rw [List.findIdx?_cons, f2]
      rfl
  | [], _ :: _, h => by cases h
  | _ :: _, [], h => by cases h
theorem pg_T {N : List Str} {sc : Scope} {own : List Nat} {t : MT} {e : Expr} (hc : X.calm = true) (hN : X.N = N) (nd : X.N.Nodup) (fnc : ∀ x, locB sc x = true → Loc X.env.scope x ∧ (X.fn x = true ∨ X.env.scope.names.lookup x = some .local)) (h : mT N sc own t e = true) :
    PG X e (gTm X.K t) ∧ ∀ i ∈ slotsT t, i ∈ own := by
  cases t with
  | one i =>
    obtain ⟨p1, m1, _⟩ := pg_one hN nd fnc h
    exact ⟨p1, fun j hj => by simp [slotsT] at hj; subst hj; exact m1⟩
  | tup is =>
    unfold mT at h
    dsimp only at h
    split at h
    · rename_i es hes
      obtain ⟨k, p, rfl⟩ := asTup_ hes
      obtain ⟨p2, m2, l2, f2⟩ := pgs_many hN nd fnc h
      exact ⟨pg_tup hc p2 l2 f2, m2⟩
    · cases h
  | two i is =>
    unfold mT at h
    dsimp only at h
    split at h
    · rename_i e1 e2 hes
      obtain ⟨k, p, rfl⟩ := asTup_ hes
      rw [Bool.and_eq_true] at h
      obtain ⟨h1, h2⟩ := h
      split at h2
      · rename_i es hes2
        obtain ⟨k2, p2, rfl⟩ := asTup_ hes2
        obtain ⟨q1, m1, x, px, rfl⟩ := pg_one hN nd fnc h1
        obtain ⟨q2, m2, l2, f2⟩ := pgs_many hN nd fnc h2
        refine ⟨pg_tup hc (pgs_cons q1 (pgs_cons (pg_tup hc q2 l2 f2) pgs_nil)) rfl rfl, fun j hj => ?_⟩
        rcases List.mem_cons.mp hj with rfl | hj
        · exact m1
        · exact m2 j hj
      · cases h2
    · cases h
end

section
variable {K : PySem.W.Frag} {cm : List Addr} {nm : List Str} {H0 : Hx} {ρ : List Addr} {F H : Hp} {s : Sto} {own : List Nat}
theorem gs_ok (st : StOk K cm nm ρ F H s) : ∀ {is : List Nat} {vs : List V} {ds : List D} {σ : L2.St} {δ δ1 : Lcs} {Q : L2.St → Hp → Prop}, LocOk K H0 ρ F H σ δ → RepL K ρ F vs ds → setsL δ is ds = some δ1 → (∀ i ∈ is, i ∈ own) →
    (∀ σ2, LocOk K H0 ρ F H σ2 δ1 → wipe σ2 own = wipe σ own → Q σ2 H) → gsN is vs σ H Q
  | [], _, _, σ, δ, δ1, Q, lo, .nil, h, _, k => by
    cases h
    exact ⟨rfl, k σ lo rfl⟩
  | i :: is, _, _, σ, δ, δ1, Q, lo, .cons (v := v) (d := d) r l, h, hm, k => by
    refine ⟨v, _, rfl, ?_⟩
    refine gs_ok st (lo.put i r) l h (fun j hj => hm j (List.mem_cons_of_mem _ hj)) fun σ2 l2 w2 => k σ2 l2 ?_
    rw [w2, wipe_set _ _ _ _ (hm i List.mem_cons_self)]
  | [], _, _, σ, δ, δ1, Q, lo, .cons _ _, h, _, k => by cases h
  | _ :: _, _, _, σ, δ, δ1, Q, lo, .nil, h, _, k => by cases h
theorem setsL_len : ∀ {is : List Nat} {ds : List D} {δ δ1 : Lcs}, setsL δ is ds = some δ1 → is.length = ds.length
  | [], [], _, _, _ => rfl
  | i :: is, d :: ds, δ, δ1, h => by rw [List.length_cons, List.length_cons, setsL_len (is := is) (ds := ds) h]
  | [], _ :: _, _, _, h => by cases h
  | _ :: _, [], _, _, h => by cases h
theorem gT_ok {t : MT} {v : V} {x : D} {σ : L2.St} {δ δ1 : Lcs} {Q : L2.St → Hp → Prop} (st : StOk K cm nm ρ F H s) (lo : LocOk K H0 ρ F H σ δ) (r : RepD K ρ F v x) (h : bindT t x δ = some δ1) (hm : ∀ i ∈ slotsT t, i ∈ own)
    (k : ∀ σ2, LocOk K H0 ρ F H σ2 δ1 → wipe σ2 own = wipe σ own → Q σ2 H) : gTm K t v σ H Q := by
  cases t with
  | one i =>
    cases h
    exact k _ (lo.put i r) (wipe_set _ _ _ _ (hm i (by simp [slotsT])))
  | tup is =>
    cases x <;> try cases h
    rename_i xs
    cases r with
    | tup hq l =>
      refine ⟨_, _, rfl, Same.sqT st.sub hq, ?_, gs_ok st lo l h hm k⟩
      rw [l.length, setsL_len h]
  | two i is =>
    unfold bindT at h
    dsimp only at h
    split at h
    · rename_i a xs
      cases r with
      | tup hq l =>
        cases l with
        | cons ra l => cases l with
          | cons rb l =>
            cases l
            cases rb with
            | tup hq2 l2 =>
              refine ⟨_, _, rfl, Same.sqT st.sub hq, rfl, _, _, rfl, _, _, rfl, ⟨_, _, rfl, Same.sqT st.sub hq2, ?_, ?_⟩⟩
              · rw [l2.length, setsL_len h]
              · refine gs_ok st (lo.put i ra) l2 h (fun j hj => hm j (List.mem_cons_of_mem _ hj)) fun σ2 lo2 w2 => ⟨rfl, k σ2 lo2 ?_⟩
                rw [w2, wipe_set _ _ _ _ (hm i List.mem_cons_self)]
    · cases h
end

/-! ### comprehensions -/
theorem compGo_step {t : Wk} {f : D → Sto → Re (Option D)} {xs : List D} {s s' : Sto} {ys : List D} (h : compGo t f xs s = .ok ys s') : t.still s ∧
    ((xs = [] ∧ ys = [] ∧ s' = s) ∨ ∃ x r o s1 zs, xs = x :: r ∧ f x s = .ok o s1 ∧ compGo t f r s1 = .ok zs s' ∧ ys = o.toList ++ zs) := by
  cases xs with
  | nil =>
    simp only [compGo] at h
    split at h
    · rename_i hs; cases h; exact ⟨hs, .inl ⟨rfl, rfl, rfl⟩⟩
    · cases h
  | cons x r =>
    simp only [compGo] at h
    split at h
    · rename_i hs
      refine ⟨hs, .inr ?_⟩
      cases hf : f x s with
      | no => rw [hf] at h; cases h
      | ex a b => rw [hf] at h; cases h
      | ok o s1 =>
        rw [hf] at h
        simp only [Re.bind_ok] at h
        cases hg : compGo t f r s1 with
        | no => rw [hg] at h; cases h
        | ex a b => rw [hg] at h; cases h
        | ok zs s2 =>
          rw [hg] at h
          cases h
          exact ⟨x, r, o, s1, zs, rfl, hf, hg, rfl⟩
    · cases h
section
variable {K : PySem.W.Frag} {cm : List Addr} {nm : List Str} {H0 : Hx} {ρ ρ' : List Addr} {F F' H H' : Hp} {s s' : Sto}
theorem StOk.updOff {p : Addr} {o : HO} (st : StOk K cm nm ρ F H s) (hF : F p = none) (hc : p ∉ ρ) : StOk K cm nm ρ F (upd H p o) s where
  sub := fun b u h => by rw [upd_ne (ne_of_none h hF)]; exact st.sub b u h
  len := st.len
  cell := fun n a c h1 h2 => by
    obtain ⟨u, h3, h4⟩ := st.cell n a c h1 h2
    exact ⟨u, by rw [upd_ne (fun e => hc (by rw [← e]; exact List.mem_of_getElem? h1))]; exact h3, h4⟩
  off := st.off
  nd := st.nd
theorem Ext.updNew {p : Addr} {o : HO} (e : Ext ρ F H s ρ' F' H' s') (h0 : H p = none) : Ext ρ F H s ρ' F' (upd H' p o) s' where
  pre := e.pre
  froz := e.froz
  wle := e.wle
  keep := fun b u h hn => by rw [upd_ne (ne_of_none h h0)]; exact e.keep b u h hn
  still := fun w b u h => by rw [upd_ne (ne_of_none h h0)]; exact e.still w b u h
  there := fun b u h => by
    obtain ⟨o', h'⟩ := e.there b u h
    exact ⟨o', by rw [upd_ne (ne_of_none h h0)]; exact h'⟩
  newF := e.newF
  newC := e.newC
end

section
variable {X : Cx} {Z : Ev} {G : Gi} {k : Nat} (g : Gd X Z G k)
include g
theorem Gd.blk {s : Shared} {H : Hp} {scope : Scope} {C : Addr} {cl : List (Str × Addr)} {fp : List Addr} : Gd (X.blk s H scope (compEnvC scope cl C X.env) fp) Z G k :=
  { nd := g.nd, calm := g.calm, nohx := g.nohx, hu := g.hu, room := g.room, room2 := g.room2, bl := g.bl, cs := g.cs, fn := g.fn, fnx := g.fnx, nms := g.nms, cls := g.cls, mth := g.mth, isi := g.isi, exc := g.exc, xs := g.xs, xf2 := g.xf2 }
omit g in
theorem blk_scope {s : Shared} {H : Hp} {scope : Scope} {C : Addr} {cl : List (Str × Addr)} {fp : List Addr} : (X.blk s H scope (compEnvC scope cl C X.env) fp).env.scope = relS scope X.env.scope := rfl
omit g in
theorem blk_loc {s : Shared} {H : Hp} {scope : Scope} {C : Addr} {cl : List (Str × Addr)} {fp : List Addr} (x : Str) (h : locB scope x = true) : Loc (X.blk s H scope (compEnvC scope cl C X.env) fp).env.scope x ∧ ((X.blk s H scope (compEnvC scope cl C X.env) fp).fn x = true ∨ (X.blk s H scope (compEnvC scope cl C X.env) fp).env.scope.names.lookup x = some .local) := by
  rcases locB_ h with q | q
  · have e : (relS scope X.env.scope).names.lookup x = some .local := lookup_relS_keep (by decide) q
    exact ⟨.inl e, .inr e⟩
  · have e : (relS scope X.env.scope).names.lookup x = some .cell := lookup_relS_keep (by decide) q
    refine ⟨.inr e, .inl ?_⟩
    show (scope.names.lookup x == some .cell) = true
    rw [q]; rfl

/-- one item's turn in a comprehension -/
noncomputable def turnC (Z : Ev) (own : List Nat) (tg : MT) (cnd : MQ) (elt : ME) (δ : Lcs) : D → Sto → Re (Option D) := fun x s2 => match bindT tg x (wipeL δ own) with
  | some δ1 => (evalT Z.cf cnd δ1 s2).bind fun b s3 => if b = true then (evalE Z.cf elt δ1 s3).bind fun d s4 => .ok (some d) s4 else .ok none s3
  | none => .no

theorem lc_ok {own : List Nat} {tg : MT} {it : MI} {cnd : MQ} {elt : ME} (hm : ∀ i ∈ slotsT tg, i ∈ own) (σ : L2.St) (H : Hp) (Q : VK) (q : tF X.K Z (.comp own tg it cnd elt) σ H Q) :
    tLc (tI X.K Z it) (gTm X.K tg) (tQ X.K Z cnd) (tE X.K Z elt) own σ H Q := by
  simp only [tF, evalF] at q
  refine tR.bind anti_RO q fun δ t s1 J ρ1 F1 H1 st1 lo1 j1 q1 => ?_
  intro D hD
  split at q1
  · rename_i hl
    -- the whole run
    obtain ⟨ds, s5, hrun, qfin⟩ : ∃ ds s5, compGo t (turnC Z own tg cnd elt δ) t.xs s1 = .ok ds s5 ∧ Post X.K Z.cm Z.nm (RO X.K) (.ok (.l ds) s5) ρ1 F1 H1 s1 Q := by
      change Post X.K Z.cm Z.nm (RO X.K) ((compGo t (turnC Z own tg cnd elt δ) t.xs s1).bind fun ds s5 => .ok (.l ds) s5) ρ1 F1 H1 s1 Q at q1
      cases hr : compGo t (turnC Z own tg cnd elt δ) t.xs s1 with
      | no => rw [hr] at q1; exact q1.elim
      | ex a b => rw [hr] at q1; exact q1.elim
      | ok ds s5 => rw [hr] at q1; exact ⟨ds, s5, rfl, q1⟩
    refine ⟨fun i m H => m = t.xs.length - i ∧ i ≤ t.xs.length ∧ ∃ ρ F s acc zs ys, Ext ρ1 F1 H1 s1 ρ F H s ∧ StOk X.K Z.cm Z.nm ρ F H s ∧ H D = some (.lst acc) ∧ RepL X.K ρ F acc zs ∧ F D = none ∧ D ∉ ρ ∧ acc.length ≤ i ∧
      compGo t (turnC Z own tg cnd elt δ) (t.xs.drop i) s = .ok ys s5 ∧ zs ++ ys = ds, ⟨t.xs.length, by simp, Nat.zero_le _, ρ1, F1, s1, [], [], ds, Ext.alloc hD, st1.alloc hD, upd_same, .nil, st1.noF hD, st1.noC hD, Nat.le_refl _, by simpa using hrun, rfl⟩, ?_⟩
    rintro i m H2 ⟨rfl, hi, ρ, F, s, acc, zs, ys, e, st, hDH, racc, hFD, hDρ, hacc, hgo, hds⟩
    obtain ⟨still, hcase⟩ := compGo_step hgo
    obtain ⟨jstop, jgo⟩ := j1 ρ F H2 s e.pre e.froz st still
    by_cases hlt : i < t.xs.length
    · have hdrop : t.xs.drop i = t.xs[i] :: t.xs.drop (i + 1) := List.drop_eq_getElem_cons hlt
      rcases hcase with ⟨h1, _, _⟩ | ⟨x0, r0, o, s2, zs2, h1, hf, hg2, hys⟩
      · rw [hdrop] at h1; cases h1
      · rw [hdrop] at h1
        cases h1
        obtain ⟨hgo1, hy⟩ := jgo i hlt
        refine .inr ⟨hgo1, _, fun H' w => ⟨t.xs.length - (i + 1), by omega, w⟩, fun xv H3 y3 => ?_⟩
        obtain ⟨d0, F3, hd0, e3, st3, r3⟩ := hy xv H3 y3
        have hd0' : d0 = t.xs[i] := by simpa [hlt] using hd0.symm
        subst hd0'
        unfold turnC at hf
        split at hf
        · rename_i δ1 hbind
          have lo3 := (lo1.ext (e.trans e3)).wipe own
          refine gT_ok st3 lo3 r3 hbind hm fun σ2 lo4 w4 => ⟨by rw [w4]; exact (by
            apply List.ext_getElem?
            intro j
            rw [wipe_get, wipe_get, wipe_length]
            by_cases hj : j ∈ own
            · rw [if_pos hj, if_pos hj]
            · rw [if_neg hj, if_neg hj]), ?_⟩
          have hD3 : H3 D = some (.lst acc) := e3.keep _ _ hDH hDρ
          have hF3 : F3 D = none := by
            cases q : F3 D with
            | none => rfl
            | some u =>
              rcases e3.newF _ _ q with z | z
              · rw [hFD] at z; cases z
              · rw [hDH] at z; cases z
          refine ⟨δ1, s, ρ, F3, st3, lo4, ?_⟩
          cases ht2 : evalT Z.cf cnd δ1 s with
          | no => rw [ht2] at hf; cases hf
          | ex a b => rw [ht2] at hf; cases hf
          | ok b s3 =>
            rw [ht2] at hf
            simp only [Re.bind_ok] at hf
            intro c ρ4 F4 H4 e4 st4 rc
            cases rc
            have hD4 : H4 D = some (.lst acc) := e4.keep _ _ hD3 hDρ
            have off : ∀ {ρ' : List Addr} {F' H' : Hp} {s' sb : Sto} {ρb : List Addr} {Fb Hb : Hp}, Ext ρb Fb Hb sb ρ' F' H' s' → Fb D = none → D ∉ ρb → Hb D = some (.lst acc) → F' D = none ∧ D ∉ ρ' := fun {ρ' F' H' s' sb ρb Fb Hb} ee f0 c0 h0 => by
              refine ⟨?_, fun hc => ?_⟩
              · cases q : F' D with
                | none => rfl
                | some u =>
                  rcases ee.newF _ _ q with z | z
                  · rw [f0] at z; cases z
                  · rw [h0] at z; cases z
              · rcases ee.newC _ hc with z | z
                · exact c0 z
                · rw [h0] at z; cases z
            obtain ⟨f4, c4⟩ := off e4 hF3 hDρ hD3
            cases b with
            | false =>
              rw [if_neg Bool.false_ne_true] at hf ⊢
              cases hf
              refine ⟨rfl, hlt, ρ4, F4, s2, acc, zs, zs2, e.trans (e3.trans e4), st4, hD4, (racc.mono (List.prefix_refl _) e3.froz).mono e4.pre e4.froz, f4, c4, by omega, hg2, ?_⟩
              rw [← hds, hys]; rfl
            | true =>
              rw [if_pos rfl] at hf ⊢
              cases he2 : evalE Z.cf elt δ1 s3 with
              | no => rw [he2] at hf; cases hf
              | ex a b => rw [he2] at hf; cases hf
              | ok d s4 =>
                rw [he2] at hf
                cases hf
                refine ⟨δ1, s3, ρ4, F4, st4, lo4.ext e4, ?_⟩
                rw [he2]
                intro v ρ5 F5 H5 e5 st5 r5
                have hD5 : H5 D = some (.lst acc) := e5.keep _ _ hD4 c4
                obtain ⟨f5, c5⟩ := off e5 f4 c4 hD4
                have eL : line = 16777216 := rfl
                refine ⟨acc, hD5, by rw [← line_eq]; omega, rfl, hlt, ρ5, F5, s2, acc ++ [v], zs ++ [d], zs2, (e.trans (e3.trans (e4.trans e5))).updNew hD, st5.updOff f5 c5, upd_same,
                  (((racc.mono (List.prefix_refl _) e3.froz).mono e4.pre e4.froz).mono e5.pre e5.froz).append (.cons r5 .nil), f5, c5, by simp; omega, hg2, ?_⟩
                rw [← hds, hys]
                simp
        · cases hf
    · have hi2 : i = t.xs.length := by omega
      subst hi2
      rcases hcase with ⟨h1, h2, h3⟩ | ⟨x0, r0, o, s2, zs2, h1, _⟩
      · refine .inl ⟨jstop _ (Nat.le_refl _), ?_⟩
        subst h2 h3
        rw [List.append_nil] at hds
        subst hds
        exact qfin (.ref D) ρ F H2 e st ⟨D, acc, rfl, hDH, racc, hFD, hDρ, hD⟩
      · rw [List.drop_length] at h1; cases h1
  · exact q1.elim
theorem sf_comp {own : List Nat} {tg : MT} {it : MI} {cnd : MQ} {elt : ME} {x t i : Expr} {fs : List Expr} {sc2 : Scope} {p : Pos} (hb : blkC X.N X.env.scope sc2 (own.map fun k => (X.N.getD k "", k)) = true) (hset : notSet i = true)
    (hi : PI X t i (tI X.K Z it)) (hm : ∀ i ∈ slotsT tg, i ∈ own)
    (hg : ∀ (s : Shared) (H : Hp) (C : Addr) (cl : List (Str × Addr)) (fp : List Addr), PG (X.blk s H sc2 (compEnvC sc2 cl C X.env) fp) t (gTm X.K tg))
    (ht : ∀ (s : Shared) (H : Hp) (C : Addr) (cl : List (Str × Addr)) (fp : List Addr), PTs (X.blk s H sc2 (compEnvC sc2 cl C X.env) fp) fs (tQ X.K Z cnd))
    (he : ∀ (s : Shared) (H : Hp) (C : Addr) (cl : List (Str × Addr)) (fp : List Addr), PE (X.blk s H sc2 (compEnvC sc2 cl C X.env) fp) x (tE X.K Z elt)) :
    PE X (.ListComp x [⟨t, i, fs, 0⟩] sc2 p) (tF X.K Z (.comp own tg it cnd elt)) := by
  refine (pe_lc g.calm g.nd hi (blkOk_by hb) hg ht he (folded_ hset X.env)).conseq fun σ H Q q => ?_
  have hown : (own.map fun k => (X.N.getD k "", k)).map (·.2) = own := by rw [List.map_map]; exact List.map_id _
  rw [hown]
  exact lc_ok g hm σ H Q q
/-- name = [..]: both ways of the model -/
theorem ss_comp {own : List Nat} {tg : MT} {it : MI} {cnd : MQ} {elt : ME} {x t i : Expr} {fs : List Expr} {sc2 : Scope} {p py ps : Pos} {y : Str} {j : Nat} (hy : X.N[j]? = some y) (hl : Loc X.env.scope y) (hf : X.fn y = true ∨ X.env.scope.names.lookup y = some .local)
    (hb : blkC X.N X.env.scope sc2 (own.map fun k => (X.N.getD k "", k)) = true) (hset : notSet i = true)
    (hi : PI X t i (tI X.K Z it)) (hm : ∀ i ∈ slotsT tg, i ∈ own)
    (hg : ∀ (s : Shared) (H : Hp) (C : Addr) (cl : List (Str × Addr)) (fp : List Addr), PG (X.blk s H sc2 (compEnvC sc2 cl C X.env) fp) t (gTm X.K tg))
    (ht : ∀ (s : Shared) (H : Hp) (C : Addr) (cl : List (Str × Addr)) (fp : List Addr), PTs (X.blk s H sc2 (compEnvC sc2 cl C X.env) fp) fs (tQ X.K Z cnd))
    (he : ∀ (s : Shared) (H : Hp) (C : Addr) (cl : List (Str × Addr)) (fp : List Addr), PE (X.blk s H sc2 (compEnvC sc2 cl C X.env) fp) x (tE X.K Z elt)) :
    PS X (.Assign [.Name y py] (.ListComp x [⟨t, i, fs, 0⟩] sc2 p) ps) (tAsg (tF X.K Z (.comp own tg it cnd elt)) (gName j)) := by
  have hown : (own.map fun k => (X.N.getD k "", k)).map (·.2) = own := by rw [List.map_map]; exact List.map_id _
  have hsw : ∃ b : Bool, swapsWith (.ListComp x [⟨t, i, fs, 0⟩] sc2 p) (some (.Name y py)) ps.line X.env = pure b ∧ (b = true → X.env.scope.names.lookup y = some .local) := by
    refine ⟨_, rfl, fun h => ?_⟩
    simp only [Bool.and_eq_true] at h
    have h2 := h.1.1.2
    exact beq_iff_eq.mp h2
  obtain ⟨b, hb1, hb2⟩ := hsw
  cases b with
  | true =>
    refine (ps_setLc g.calm g.nd hy (hb2 rfl) hb1 hi (blkOk_by hb) hg ht he (folded_ hset X.env)).conseq fun D σ H q => ?_
    rw [hown]
    exact lc_ok g hm σ H _ q
  | false =>
    exact ps_set g.nd hy hl (sf_comp g hb hset hi hm hg ht he) hb1 hf
end
end Mn
set_option Elab.async false
set_option linter.all false
set_option maxRecDepth 100000
set_option maxHeartbeats 4000000
/-! The small language is sound: every expression that matches. -/
namespace Mn
open PySem L2 PyProof.Rows


theorem mEs_stars {G : Gi} {N : List Str} {sc : Scope} : ∀ {ms : MEs} {es : List Expr}, mEs G N sc ms es = true → es.all notStar = true
  | .nil, [], _ => rfl
  | .cons m ms, e :: es, h => by
    simp only [mEs, Bool.and_eq_true] at h
    rw [List.all_cons, h.1.1, mEs_stars h.2]; rfl
  | .nil, _ :: _, h => by simp [mEs] at h
  | .cons _ _, [], h => by simp [mEs] at h
mutual
theorem snd_E {X : Cx} {Z : Ev} {G : Gi} {k : Nat} (g : Gd X Z G k) : ∀ (m : ME) (e : Expr), mE G X.N X.env.scope m e = true → PE X e (tE X.K Z m)
  | .int i, e, h => by
    simp only [mE] at h
    split at h
    · rename_i j hj
      obtain ⟨_, _, rfl⟩ := asConst_ hj
      have h := of_decide_eq_true h
      subst h
      exact se_const g.toGdH pe_int (fun _ _ => by simp only [evalE]) fun _ _ => .int _
    · cases h
  | .str z, e, h => by
    simp only [mE] at h
    split at h
    · rename_i j hj
      obtain ⟨_, _, rfl⟩ := asConst_ hj
      have h := of_decide_eq_true h
      subst h
      exact se_const g.toGdH pe_str (fun _ _ => by simp only [evalE]) fun _ _ => .str _
    · cases h
  | .non, e, h => by
    simp only [mE] at h
    split at h
    · rename_i hj
      obtain ⟨_, _, rfl⟩ := asConst_ hj
      exact se_const g.toGdH pe_non (fun _ _ => by simp only [evalE]) fun _ _ => .non
    · cases h
  | .bl b, e, h => by
    simp only [mE] at h
    split at h
    · rename_i j hj
      obtain ⟨_, _, rfl⟩ := asConst_ hj
      have h := of_decide_eq_true h
      subst h
      exact se_const g.toGdH pe_bl (fun _ _ => by simp only [evalE]) fun _ _ => .bl _
    · cases h
  | .gc x d, e, h => by
    simp only [mE] at h
    split at h
    · rename_i y hy
      obtain ⟨_, rfl⟩ := asName_ hy
      simp only [Bool.and_eq_true, decide_eq_true_eq, List.any_eq_true, Bool.not_eq_true'] at h
      obtain ⟨⟨⟨rfl, h2⟩, ⟨p, hp, h3, h4⟩⟩, h5⟩ := h
      have h4 := D.sc_eq h4
      obtain ⟨a, b⟩ := p
      simp only at h3 h4
      subst h3 h4
      exact se_gc g.toGdH (glB_ h2) hp h5
    · cases h
  | .var i, e, h => by
    simp only [mE] at h
    split at h
    · rename_i y hy
      obtain ⟨_, rfl⟩ := asName_ hy
      simp only [Bool.and_eq_true, decide_eq_true_eq, Bool.not_eq_true'] at h
      obtain ⟨⟨⟨h1, h2⟩, h3⟩, h4⟩ := h
      exact se_var g.toGdH h1 (visB_ h2) h3 h4
    · cases h
  | .bin o a b, e, h => by
    simp only [mE] at h
    split at h
    · rename_i x p y hx
      obtain ⟨_, rfl⟩ := asBin_ hx
      simp only [Bool.and_eq_true] at h
      obtain ⟨⟨h1, h2⟩, h3⟩ := h
      have h1 := opBB_ h1
      subst h1
      exact se_bin g.toGdH (snd_E g a x h2) (snd_E g b y h3)
    · cases h
  | .neg a, e, h => by
    simp only [mE] at h
    split at h
    · rename_i x hx
      obtain ⟨_, rfl⟩ := asUn_ hx
      exact se_neg g.toGdH (snd_E g a x h)
    · cases h
  | .cmp o a b, e, h => by
    simp only [mE] at h
    split at h
    · rename_i x p y hx
      obtain ⟨_, rfl⟩ := asCmp_ hx
      simp only [Bool.and_eq_true] at h
      obtain ⟨⟨⟨h1, h2⟩, h3⟩, h4⟩ := h
      have h1 := opCB_ h1
      subst h1
      exact se_cmp g.toGdH h2 (snd_E g a x h3) (snd_E g b y h4)
    · cases h
  | .chain o p a b c, e, h => by
    simp only [mE] at h
    split at h
    · rename_i x q r y z hx
      obtain ⟨_, rfl⟩ := asCmp_ hx
      simp only [Bool.and_eq_true] at h
      obtain ⟨⟨⟨⟨⟨h1, h2⟩, h3⟩, h4⟩, h5⟩, h6⟩ := h
      have h1 := opCB_ h1
      have h2 := opCB_ h2
      subst h1 h2
      exact se_chain g.toGdH h3 (snd_E g a x h4) (snd_E g b y h5) (snd_E g c z h6)
    · cases h
  | .andL ms, e, h => by
    simp only [mE] at h
    split at h
    · rename_i es hx
      obtain ⟨p, rfl⟩ := asBool_ hx
      exact (snd_And g ms es p h).conseq fun σ H Q q => by simp only [tE, evalE] at q; exact q
    · cases h
  | .orL ms, e, h => by
    simp only [mE] at h
    split at h
    · rename_i es hx
      obtain ⟨p, rfl⟩ := asBool_ hx
      exact (snd_Or g ms es p h).conseq fun σ H Q q => by simp only [tE, evalE] at q; exact q
    · cases h
  | .notE a, e, h => by
    simp only [mE] at h
    split at h
    · rename_i x hx
      obtain ⟨_, rfl⟩ := asUn_ hx
      exact se_not g.toGdH (snd_E g a x h)
    · cases h
  | .ife c a b, e, h => by
    simp only [mE] at h
    split at h
    · rename_i t x y hx
      obtain ⟨_, rfl⟩ := asIf_ hx
      simp only [Bool.and_eq_true] at h
      exact se_ife g.toGdH (snd_Q g c t h.1.1) (snd_E g a x h.1.2) (snd_E g b y h.2)
    · cases h
  | .tup ms, e, h => by
    simp only [mE] at h
    split at h
    · rename_i es hx
      obtain ⟨_, _, rfl⟩ := asTup_ hx
      exact se_tup g.toGdH (snd_Es g ms es h)
    · cases h
  | .idx a b, e, h => by
    simp only [mE] at h
    split at h
    · rename_i x y hx
      obtain ⟨_, rfl⟩ := asSub_ hx
      simp only [Bool.and_eq_true] at h
      exact se_idx g h.1.1 (snd_E g a x h.1.2) (snd_E g b y h.2)
    · cases h
  | .cutS a lo hi, e, h => by
    simp only [mE] at h
    split at h
    · rename_i x y hx
      obtain ⟨_, rfl⟩ := asSub_ hx
      split at h
      · rename_i l u hy
        obtain ⟨_, rfl⟩ := asSlice_ hy
        simp only [Bool.and_eq_true] at h
        exact se_cutS g (snd_E g a x h.1.1) (snd_P g lo l h.1.2) (snd_P g hi u h.2)
      · cases h
    · cases h
  | .fz f, e, h => by
    simp only [mE] at h
    exact se_fz g.toGdH (snd_F g f e h)
  | .peek i m, e, h => by
    simp only [mE] at h
    exact se_peek g (snd_E g m e h)
  | .bi f ms, e, h => by
    simp only [mE] at h
    split at h
    · rename_i f' es hx
      obtain ⟨_, rfl⟩ := asCall_ hx
      simp only [Bool.and_eq_true, decide_eq_true_eq] at h
      obtain ⟨⟨h1, h2⟩, h3⟩ := h
      obtain ⟨p, rfl, hg, hm⟩ := nm_ g h1
      cases es with
      | nil => cases f <;> cases h2
      | cons a es => exact se_bi g hg hm (mEs_stars h3) (snd_Es g ms _ h3)
    · cases h
  | .dft mx a k, e, h => by
    simp only [mE] at h
    split at h
    · rename_i f' x q hx
      obtain ⟨_, rfl⟩ := asCall_ hx
      simp only [Bool.and_eq_true, decide_eq_true_eq] at h
      obtain ⟨⟨⟨⟨h1, h2⟩, h3⟩, h4⟩, h5⟩ := h
      obtain ⟨p, rfl, hg, hm⟩ := nm_ g h1
      obtain ⟨qa, qv, qp⟩ := q
      simp only at h2 h5
      subst h2
      exact se_dft g hg hm h3 (snd_E g a x h4) (snd_E g k qv h5)
    · cases h
  | .isi a t, e, h => by
    simp only [mE] at h
    split at h
    · rename_i f' x y hx
      obtain ⟨_, rfl⟩ := asCall_ hx
      simp only [Bool.and_eq_true] at h
      obtain ⟨⟨⟨⟨h1, h2⟩, h3⟩, h4⟩, h5⟩ := h
      obtain ⟨p, rfl, hg, hm⟩ := nm_ g h1
      obtain ⟨p2, rfl, hg2, hm2⟩ := nm_ g h2
      exact se_isi hg hm hg2 hm2 h3 (snd_E g a x h5)
    · cases h
  | .bm .join o (.cons a .nil), e, h => by
    simp only [mE] at h
    split at h
    · rename_i x n y b hx
      obtain ⟨pa, p, rfl, hb⟩ := asMth_ hx
      simp only [Bool.and_eq_true, decide_eq_true_eq] at h
      obtain ⟨⟨⟨⟨⟨rfl, h2⟩, h3⟩, h4⟩, h5⟩, h6⟩ := h
      exact se_join g h2 (hb.trans h3) h4 (snd_E g o x h5) (snd_E g a y h6)
    · cases h
  | .bm .upper o .nil, e, h => by
    simp only [mE] at h
    split at h
    · rename_i x n b hx
      obtain ⟨pa, p, rfl, hb⟩ := asMth_ hx
      simp only [Bool.and_eq_true, decide_eq_true_eq] at h
      obtain ⟨⟨⟨rfl, h2⟩, h3⟩, h4⟩ := h
      exact se_upper g h2 (hb.trans h3) (snd_E g o x h4)
    · cases h
  | .bm .upper o (.cons a es), e, h => by simp [mE] at h
  | .bm .join o .nil, e, h => by simp [mE] at h
  | .bm .join o (.cons a (.cons b es)), e, h => by simp [mE] at h
  | .bm .index o (.cons a .nil), e, h => by
    simp only [mE] at h
    split at h
    · rename_i x n y b hx
      obtain ⟨pa, p, rfl, hb⟩ := asMth_ hx
      simp only [Bool.and_eq_true, decide_eq_true_eq] at h
      obtain ⟨⟨⟨⟨⟨rfl, h2⟩, h3⟩, h4⟩, h5⟩, h6⟩ := h
      exact se_index g h2 (hb.trans h3) h4 (snd_E g o x h5) (snd_E g a y h6)
    · cases h
  | .bm .index o .nil, e, h => by simp [mE] at h
  | .bm .index o (.cons a (.cons b es)), e, h => by simp [mE] at h
  | .dct0, e, h => by
    simp only [mE] at h
    split at h
    · rename_i hx
      obtain ⟨p, rfl⟩ := asDic_ hx
      exact se_dct0 g
    · cases h
  | .dct1 z i, e, h => by
    simp only [mE] at h
    split at h
    · rename_i k v hx
      obtain ⟨p, rfl⟩ := asDic_ hx
      split at h
      · rename_i x j hk hv
        obtain ⟨_, _, rfl⟩ := asConst_ hk
        obtain ⟨_, _, rfl⟩ := asConst_ hv
        simp only [Bool.and_eq_true, decide_eq_true_eq] at h
        obtain ⟨rfl, rfl⟩ := h
        exact se_dct1 g
      · cases h
    · cases h
  | .peekI i m, e, h => by
    simp only [mE] at h
    split at h
    · rename_i x y hx
      obtain ⟨_, rfl⟩ := asSub_ hx
      simp only [Bool.and_eq_true] at h
      obtain ⟨⟨h1, h2⟩, h3⟩ := h
      split at h2
      · rename_i z hz
        obtain ⟨_, rfl⟩ := asName_ hz
        simp only [Bool.and_eq_true, decide_eq_true_eq, Bool.not_eq_true'] at h2
        obtain ⟨⟨⟨h4, h5⟩, h6⟩, h7⟩ := h2
        exact se_peekI g h1 h4 (visB_ h5) h6 h7 (snd_E g m y h3)
      · cases h2
    · cases h
  | .newI c, e, h => by
    simp only [mE] at h
    split at h
    · rename_i f' hx
      obtain ⟨_, rfl⟩ := asCall_ hx
      split at h
      · rename_i x hy
        obtain ⟨_, rfl⟩ := asName_ hy
        simp only [Bool.and_eq_true, decide_eq_true_eq, Bool.not_eq_true'] at h
        exact se_newI g h.1.1 (glB_ h.1.2) h.2
      · cases h
    · cases h
  | .isiC a x tb, e, h => by
    simp only [mE] at h
    split at h
    · rename_i f' y z hx
      obtain ⟨_, rfl⟩ := asCall_ hx
      simp only [Bool.and_eq_true, List.all_eq_true, List.contains_iff_mem] at h
      obtain ⟨⟨⟨⟨⟨⟨h1, h2⟩, h3⟩, h4⟩, h5⟩, h6⟩, h7⟩ := h
      obtain ⟨p, rfl, hg, hm⟩ := nm_ g h1
      split at h5
      · rename_i x' hz
        obtain ⟨_, rfl⟩ := asName_ hz
        simp only [Bool.and_eq_true, decide_eq_true_eq, Bool.not_eq_true'] at h5
        obtain ⟨⟨rfl, h8⟩, h9⟩ := h5
        exact se_isiC g hg hm (glB_ h8) h9 h6 h7 h2 (snd_E g a y h4)
      · cases h5
    · cases h
  | .lenSet a, e, h => by
    simp only [mE] at h
    split at h
    · rename_i f' y hx
      obtain ⟨_, rfl⟩ := asCall_ hx
      simp only [Bool.and_eq_true] at h
      obtain ⟨h1, h2⟩ := h
      obtain ⟨p, rfl, hg, hm⟩ := nm_ g h1
      split at h2
      · rename_i f2 z hy
        obtain ⟨_, rfl⟩ := asCall_ hy
        simp only [Bool.and_eq_true] at h2
        obtain ⟨⟨h3, h4⟩, h5⟩ := h2
        obtain ⟨p2, rfl, hg2, hm2⟩ := nm_ g h3
        exact se_lenSet g hg hm hg2 hm2 h4 (snd_E g a z h5)
      · cases h2
    · cases h
  | .newL ms, e, h => by
    simp only [mE] at h
    split at h
    · rename_i es hx
      obtain ⟨_, rfl⟩ := asLst_ hx
      exact se_newL g (snd_Es g ms es h)
    · cases h
theorem snd_Es {X : Cx} {Z : Ev} {G : Gi} {k : Nat} (g : Gd X Z G k) : ∀ (ms : MEs) (es : List Expr), mEs G X.N X.env.scope ms es = true → PA X es (tEs X.K Z ms)
  | .nil, [], _ => sa_nil g.toGdH
  | .cons m ms, e :: es, h => by
    simp only [mEs, Bool.and_eq_true] at h
    exact sa_cons g.toGdH h.1.1 (snd_E g m e h.1.2) (snd_Es g ms es h.2)
  | .nil, _ :: _, h => by simp [mEs] at h
  | .cons _ _, [], h => by simp [mEs] at h
theorem snd_And {X : Cx} {Z : Ev} {G : Gi} {k : Nat} (g : Gd X Z G k) : ∀ (ms : MEs) (es : List Expr) (p : Pos), mAnd G X.N X.env.scope ms es = true → PE X (.BoolOp .And es p) (tAnd X.K Z ms)
  | .cons m .nil, [e], p, h => by
    simp only [mAnd] at h
    exact sand_one g.toGdH (snd_E g m e h)
  | .cons m (.cons m2 ms), e :: f :: es, p, h => by
    simp only [mAnd, Bool.and_eq_true] at h
    exact sand_cons g.toGdH (by simp) (snd_E g m e h.1) (snd_And g (.cons m2 ms) (f :: es) p h.2)
  | .cons m .nil, e :: f :: es, p, h => by simp [mAnd] at h
  | .cons m (.cons m2 ms), [e], p, h => by simp [mAnd] at h
  | .cons m ms, [], p, h => by cases ms <;> simp [mAnd] at h
  | .nil, _, p, h => by simp [mAnd] at h
theorem snd_Or {X : Cx} {Z : Ev} {G : Gi} {k : Nat} (g : Gd X Z G k) : ∀ (ms : MEs) (es : List Expr) (p : Pos), mAnd G X.N X.env.scope ms es = true → PE X (.BoolOp .Or es p) (tOr X.K Z ms)
  | .cons m .nil, [e], p, h => by
    simp only [mAnd] at h
    exact sor_one g.toGdH (snd_E g m e h)
  | .cons m (.cons m2 ms), e :: f :: es, p, h => by
    simp only [mAnd, Bool.and_eq_true] at h
    exact sor_cons g.toGdH (by simp) (snd_E g m e h.1) (snd_Or g (.cons m2 ms) (f :: es) p h.2)
  | .cons m .nil, e :: f :: es, p, h => by simp [mAnd] at h
  | .cons m (.cons m2 ms), [e], p, h => by simp [mAnd] at h
  | .cons m ms, [], p, h => by cases ms <;> simp [mAnd] at h
  | .nil, _, p, h => by simp [mAnd] at h
theorem snd_Q {X : Cx} {Z : Ev} {G : Gi} {k : Nat} (g : Gd X Z G k) : ∀ (q : MQ) (e : Expr), mQ G X.N X.env.scope q e = true → PT X e (tQ X.K Z q)
  | .andQ qs, e, h => by
    simp only [mQ] at h
    split at h
    · rename_i es hx
      obtain ⟨p, rfl⟩ := asBool_ hx
      exact (snd_AndT g qs es p h).pt.conseq fun σ H Q q => by simp only [tQ, evalT] at q; exact q
    · cases h
  | .orQ qs, e, h => by
    simp only [mQ] at h
    split at h
    · rename_i es hx
      obtain ⟨p, rfl⟩ := asBool_ hx
      exact (snd_OrT g qs es p h).pt.conseq fun σ H Q q => by simp only [tQ, evalT] at q; exact q
    · cases h
  | .notQ q, e, h => by
    simp only [mQ] at h
    split at h
    · rename_i x hx
      obtain ⟨_, rfl⟩ := asUn_ hx
      exact sq_not g.toGdH (snd_Q g q x h)
    · cases h
  | .cmpQ o a b, e, h => by
    simp only [mQ] at h
    split at h
    · rename_i x p y hx
      obtain ⟨_, rfl⟩ := asCmp_ hx
      simp only [Bool.and_eq_true] at h
      obtain ⟨⟨⟨h1, h2⟩, h3⟩, h4⟩ := h
      have h1 := opCB_ h1
      subst h1
      exact sq_cmp g.toGdH h2 (snd_E g a x h3) (snd_E g b y h4)
    · cases h
  | .chainQ o p a b c, e, h => by
    simp only [mQ] at h
    split at h
    · rename_i x q r y z hx
      obtain ⟨_, rfl⟩ := asCmp_ hx
      simp only [Bool.and_eq_true] at h
      obtain ⟨⟨⟨⟨⟨h1, h2⟩, h3⟩, h4⟩, h5⟩, h6⟩ := h
      have h1 := opCB_ h1
      have h2 := opCB_ h2
      subst h1 h2
      exact sq_chain g.toGdH h3 (snd_E g a x h4) (snd_E g b y h5) (snd_E g c z h6)
    · cases h
  | .val m, e, h => by
    simp only [mQ, Bool.and_eq_true] at h
    exact sq_val g.toGdH h.1 (snd_E g m e h.2)
  | .yes, e, h => by simp [mQ] at h
theorem snd_AndT {X : Cx} {Z : Ev} {G : Gi} {k : Nat} (g : Gd X Z G k) : ∀ (qs : MQs) (es : List Expr) (p : Pos), mQs G X.N X.env.scope qs es = true → PW X (.BoolOp .And es p) (tAndT X.K Z qs)
  | .cons m .nil, [e], p, h => by
    simp only [mQs] at h
    exact sandT_one g.toGdH (snd_Q g m e h)
  | .cons m (.cons m2 ms), e :: f :: es, p, h => by
    simp only [mQs, Bool.and_eq_true] at h
    exact sandT_cons g.toGdH (by simp) (snd_Q g m e h.1) (snd_AndT g (.cons m2 ms) (f :: es) p h.2)
  | .cons m .nil, e :: f :: es, p, h => by simp [mQs] at h
  | .cons m (.cons m2 ms), [e], p, h => by simp [mQs] at h
  | .cons m ms, [], p, h => by cases ms <;> simp [mQs] at h
  | .nil, _, p, h => by simp [mQs] at h
theorem snd_OrT {X : Cx} {Z : Ev} {G : Gi} {k : Nat} (g : Gd X Z G k) : ∀ (qs : MQs) (es : List Expr) (p : Pos), mQs G X.N X.env.scope qs es = true → PW X (.BoolOp .Or es p) (tOrT X.K Z qs)
  | .cons m .nil, [e], p, h => by
    simp only [mQs] at h
    exact sorT_one g.toGdH (snd_Q g m e h)
  | .cons m (.cons m2 ms), e :: f :: es, p, h => by
    simp only [mQs, Bool.and_eq_true] at h
    exact sorT_cons g.toGdH (by simp) (snd_Q g m e h.1) (snd_OrT g (.cons m2 ms) (f :: es) p h.2)
  | .cons m .nil, e :: f :: es, p, h => by simp [mQs] at h
  | .cons m (.cons m2 ms), [e], p, h => by simp [mQs] at h
  | .cons m ms, [], p, h => by cases ms <;> simp [mQs] at h
  | .nil, _, p, h => by simp [mQs] at h
theorem snd_P {X : Cx} {Z : Ev} {G : Gi} {k : Nat} (g : Gd X Z G k) : ∀ (m : MO) (e : Option Expr), mP G X.N X.env.scope m e = true → PO X e (tP X.K Z m)
  | .none, none, _ => sp_none g
  | .some m, some e, h => by
    simp only [mP] at h
    exact sp_some g (snd_E g m e h)
  | .none, some _, h => by simp [mP] at h
  | .some _, none, h => by simp [mP] at h
theorem snd_F {X : Cx} {Z : Ev} {G : Gi} {k : Nat} (g : Gd X Z G k) : ∀ (f : MF) (e : Expr), mF G X.N X.env.scope f e = true → PE X e (tF X.K Z f)
  | .lst ms, e, h => by
    simp only [mF] at h
    split at h
    · rename_i es hx
      obtain ⟨_, rfl⟩ := asLst_ hx
      exact sf_lst g.toGdH (snd_Es g ms es h)
    · cases h
  | .comp own tg it cnd elt, e, h => by
    simp only [mF] at h
    split at h
    · rename_i x t i fs sc2 hx
      obtain ⟨_, rfl⟩ := asComp_ hx
      simp only [Bool.and_eq_true] at h
      obtain ⟨⟨⟨⟨⟨h1, h2⟩, h3, hz⟩, h4⟩, h5⟩, h6⟩ := h
      have hm : ∀ i ∈ slotsT tg, i ∈ own := by
        have pt := pg_T (X := X.blk X.s_0 X.H_0 sc2 (compEnvC sc2 [] 0 X.env) []) g.calm (sc := sc2) rfl g.nd blk_loc h2
        exact pt.2
      refine sf_comp g h1 h3 (snd_I g it t i h4 hz) hm (fun s H C cl fp => (pg_T (X := X.blk s H sc2 (compEnvC sc2 cl C X.env) fp) g.calm (sc := sc2) rfl g.nd blk_loc h2).1) (fun s H C cl fp => ?_)
        (fun s H C cl fp => snd_E (X := X.blk s H sc2 (compEnvC sc2 cl C X.env) fp) g.blk elt x h5)
      split at h6
      · cases cnd <;> first | cases h6 | skip
        exact ⟨fun pins s σ H Q I q => pts_nil.run pins s σ H Q I (by
          obtain ⟨δ, s, ρ, F, st, lo, po⟩ := q
          simp only [evalT] at po
          exact po.now st rfl)⟩
      · rename_i c
        exact pts_one (snd_Q (X := X.blk s H sc2 (compEnvC sc2 cl C X.env) fp) g.blk cnd c h6)
      · cases h6
    · cases h
  | .cutL a lo hi, e, h => by
    simp only [mF] at h
    split at h
    · rename_i x y hx
      obtain ⟨_, rfl⟩ := asSub_ hx
      split at h
      · rename_i l u hy
        obtain ⟨_, rfl⟩ := asSlice_ hy
        simp only [Bool.and_eq_true] at h
        exact sf_cutL g (snd_E g a x h.1.1) (snd_P g lo l h.1.2) (snd_P g hi u h.2)
      · cases h
    · cases h
  | .rev a, e, h => by
    simp only [mF] at h
    split at h
    · rename_i x _ _ _ _ hx
      obtain ⟨_, rfl⟩ := asSub_ hx
      exact sf_rev g (snd_E g a x h)
    · cases h
  | .cat a b, e, h => by
    simp only [mF] at h
    split at h
    · rename_i x y hx
      obtain ⟨_, rfl⟩ := asBin_ hx
      simp only [Bool.and_eq_true] at h
      exact sf_cat (snd_E g a x h.1) (snd_E g b y h.2)
    · cases h
  | .rep a b, e, h => by
    simp only [mF] at h
    split at h
    · rename_i x y hx
      obtain ⟨_, rfl⟩ := asBin_ hx
      simp only [Bool.and_eq_true] at h
      exact sf_rep g (snd_F g a x h.1) (snd_E g b y h.2)
    · cases h
  | .repE a b, e, h => by
    simp only [mF] at h
    split at h
    · rename_i x y hx
      obtain ⟨_, rfl⟩ := asBin_ hx
      simp only [Bool.and_eq_true] at h
      exact sf_repE g (snd_E g a x h.1) (snd_E g b y h.2)
    · cases h
  | .sortK f a, e, h => by
    simp only [mF] at h
    split at h
    · rename_i f' x q hx
      obtain ⟨_, rfl⟩ := asCall_ hx
      simp only [Bool.and_eq_true, decide_eq_true_eq] at h
      obtain ⟨⟨⟨⟨h1, h2⟩, h3⟩, h4⟩, h5⟩ := h
      obtain ⟨p, rfl, hg, hm⟩ := nm_ g h1
      obtain ⟨qa, qv, qp⟩ := q
      simp only at h2 h5
      subst h2
      split at h5
      · rename_i y hy
        obtain ⟨py, rfl⟩ := asName_ hy
        simp only [Bool.and_eq_true, decide_eq_true_eq, Bool.not_eq_true'] at h5
        exact sf_sortK g h5.1.1 (glB_ h5.1.2) h5.2 hg hm h3 (snd_E g a x h4)
      · cases h5
    · cases h
  | .lrange a, e, h => by
    simp only [mF] at h
    split at h
    · rename_i f' y hx
      obtain ⟨_, rfl⟩ := asCall_ hx
      simp only [Bool.and_eq_true] at h
      obtain ⟨h1, h2⟩ := h
      obtain ⟨p, rfl, hg, hm⟩ := nm_ g h1
      split at h2
      · rename_i f2 z hy
        obtain ⟨_, rfl⟩ := asCall_ hy
        simp only [Bool.and_eq_true] at h2
        obtain ⟨⟨h3, h4⟩, h5⟩ := h2
        obtain ⟨p2, rfl, hg2, hm2⟩ := nm_ g h3
        exact sf_lrange g hg hm hg2 hm2 h4 (snd_E g a z h5)
      · cases h2
    · cases h
  | .bf .listOf m, e, h => by
    simp only [mF] at h
    split at h
    · rename_i f' x hx
      obtain ⟨_, rfl⟩ := asCall_ hx
      simp only [Bool.and_eq_true] at h
      obtain ⟨⟨h1, h2⟩, h3⟩ := h
      obtain ⟨p, rfl, hg, hm⟩ := nm_ g h1
      exact sf_listOf g hg hm h2 (snd_E g m x h3)
    · cases h
  | .bf .sorted m, e, h => by
    simp only [mF] at h
    split at h
    · rename_i f' x hx
      obtain ⟨_, rfl⟩ := asCall_ hx
      simp only [Bool.and_eq_true] at h
      obtain ⟨⟨h1, h2⟩, h3⟩ := h
      obtain ⟨p, rfl, hg, hm⟩ := nm_ g h1
      exact sf_sorted g hg hm h2 (snd_E g m x h3)
    · cases h
  | .bf .sortSet a, e, h => by
    simp only [mF] at h
    split at h
    · rename_i f' y hx
      obtain ⟨_, rfl⟩ := asCall_ hx
      simp only [Bool.and_eq_true] at h
      obtain ⟨h1, h2⟩ := h
      obtain ⟨p, rfl, hg, hm⟩ := nm_ g h1
      split at h2
      · rename_i f2 z hy
        obtain ⟨_, rfl⟩ := asCall_ hy
        simp only [Bool.and_eq_true] at h2
        obtain ⟨⟨h3, h4⟩, h5⟩ := h2
        obtain ⟨p2, rfl, hg2, hm2⟩ := nm_ g h3
        exact sf_sortSet g hg hm hg2 hm2 h4 (snd_E g a z h5)
      · cases h2
    · cases h
  | .meth tb o x ms, e, h => by
    simp only [mF] at h
    split at h
    · rename_i y n es b hx
      obtain ⟨pa, p, rfl, hb⟩ := asMth_ hx
      simp only [Bool.and_eq_true, decide_eq_true_eq, List.all_eq_true, List.contains_iff_mem, Bool.not_eq_true', List.contains_eq_mem, decide_eq_false_iff_not] at h
      obtain ⟨⟨⟨⟨⟨⟨⟨rfl, h2⟩, h3⟩, h4⟩, h5⟩, h6⟩, h7⟩, h8⟩ := h
      refine sf_meth g h2 (hb.trans h3) h4 (mEs_stars h6) h7 h8 (snd_E g o y h5) (snd_Es g ms es h6) fun e => ?_
      subst e
      cases ms with
      | nil => rfl
      | cons _ _ => simp [mEs] at h6
    · cases h
  | .call f ms, e, h => by
    simp only [mF] at h
    split at h
    · rename_i f' es hx
      obtain ⟨_, rfl⟩ := asCall_ hx
      split at h
      · rename_i x hy
        obtain ⟨_, rfl⟩ := asName_ hy
        simp only [Bool.and_eq_true, decide_eq_true_eq, Bool.not_eq_true'] at h
        obtain ⟨⟨⟨h1, h2⟩, h3⟩, h4⟩ := h
        cases es with
        | nil =>
          cases ms with
          | nil => exact sf_call0 g h1 (glB_ h2) h3
          | cons _ _ => simp [mEs] at h4
        | cons a es => exact sf_call g h1 (glB_ h2) h3 (mEs_stars h4) (snd_Es g ms _ h4)
      · cases h
    · cases h
theorem snd_I {X : Cx} {Z : Ev} {G : Gi} {k : Nat} (g : Gd X Z G k) : ∀ (m : MI) (tg e : Expr), mI G X.N X.env.scope m e = true → (!isZ m || tupE tg) = true → PI X tg e (tI X.K Z m)
  | .seq m, tg, e, h, hz => by
    simp only [mI] at h
    exact si_seq g (snd_E g m e h)
  | .r1 a, tg, e, h, hz => by
    simp only [mI] at h
    split at h
    · rename_i f' x hx
      obtain ⟨_, rfl⟩ := asCall_ hx
      simp only [Bool.and_eq_true] at h
      obtain ⟨⟨h1, h2⟩, h3⟩ := h
      obtain ⟨p, rfl, hg, hm⟩ := nm_ g h1
      exact si_r1 g hg hm h2 (snd_E g a x h3)
    · cases h
  | .r2 a b, tg, e, h, hz => by
    simp only [mI] at h
    split at h
    · rename_i f' x y hx
      obtain ⟨_, rfl⟩ := asCall_ hx
      simp only [Bool.and_eq_true] at h
      obtain ⟨⟨⟨⟨h1, h2⟩, h3⟩, h4⟩, h5⟩ := h
      obtain ⟨p, rfl, hg, hm⟩ := nm_ g h1
      exact si_r2 g hg hm h2 h3 (snd_E g a x h4) (snd_E g b y h5)
    · cases h
  | .zip a b, tg, e, h, hz => by
    simp only [mI] at h
    split at h
    · rename_i f' x y hx
      obtain ⟨_, rfl⟩ := asCall_ hx
      simp only [Bool.and_eq_true] at h
      obtain ⟨⟨⟨⟨h1, h2⟩, h3⟩, h4⟩, h5⟩ := h
      obtain ⟨p, rfl, hg, hm⟩ := nm_ g h1
      exact si_zip g (by simpa [isZ] using hz) hg hm h2 h3 (snd_E g a x h4) (snd_E g b y h5)
    · cases h
  | .r3 a b c, tg, e, h, hz => by
    simp only [mI] at h
    split at h
    · rename_i f' x y z hx
      obtain ⟨_, rfl⟩ := asCall_ hx
      simp only [Bool.and_eq_true] at h
      obtain ⟨⟨⟨⟨⟨⟨h1, h2⟩, h3⟩, h4⟩, h5⟩, h6⟩, h7⟩ := h
      obtain ⟨p, rfl, hg, hm⟩ := nm_ g h1
      exact si_r3 g hg hm h2 h3 h4 (snd_E g a x h5) (snd_E g b y h6) (snd_E g c z h7)
    · cases h
end
end Mn
set_option Elab.async false
set_option linter.all false
set_option maxRecDepth 100000
set_option maxHeartbeats 4000000
/-! Suites behind except: their expressions. -/
namespace Mn
open PySem L2 PyProof.Rows
def asAttr : Expr → Option (Expr × Str) | .Attribute o n _ => some (o, n) | _ => none
theorem asAttr_ {e o : Expr} {n : Str} (h : asAttr e = some (o, n)) : ∃ p, e = .Attribute o n p := by cases e <;> cases h; exact ⟨_, rfl⟩
section
variable (G : Gi) (N : List Str) (sc : Scope)
def vrX (i : Nat) (e : Expr) : Bool := match asName e with
  | some x => decide (N[i]? = some x) && visB sc x && !(x == ("__debug__" : Str)) && !(x == ("__classdict__" : Str))
  | none => false
def clX (x : Str) (e : Expr) : Bool := match asName e with | some y => decide (y = x) && glB sc x && !(x == ("__debug__" : Str)) | none => false
def clXs : List (Str × List (Nat × Bool)) → List Expr → Bool
  | [], [] => true
  | (x, tb) :: r, e :: es => clX sc x e && notStar e && tb.all (fun p => G.xs.contains (x, p.1, p.2)) && clXs r es
  | _, _ => false
mutual
def hE : ME → Expr → Bool
  | .int i, e => (match asConst e with | some (.int j) => decide (i = j) | _ => false)
  | .str z, e => (match asConst e with | some (.str x) => decide (x = str z) | _ => false)
  | .non, e => (match asConst e with | some .none => true | _ => false)
  | .bl b, e => (match asConst e with | some (.bool c) => decide (b = c) | _ => false)
  | .var i, e => vrX N sc i e
  | .cmp o a b, e => (match asCmp e with | some (x, [p], [y]) => opCB o p && notSet y && hE a x && hE b y | _ => false)
  | .andL ms, e => (match asBool e with | some (.And, es) => hAnd ms es | _ => false)
  | .orL ms, e => (match asBool e with | some (.Or, es) => hAnd ms es | _ => false)
  | .notE a, e => (match asUn e with | some (.Not, x) => hE a x | _ => false)
  | .tup ms, e => (match asTup e with | some es => hEs ms es | none => false)
  | .isi a t, e => (match asCall e with | some (g, [x, y], []) => nmB G sc "isinstance" g && nmB G sc (Str.ofString (tyName t)) y && notStar x && notStar y && hE a x | _ => false)
  | .fz f, e => hF f e
  | .xfl i f cs, e => (match asAttr e with | some (o, n) => decide (n = f) && plainBs o && vrX N sc i o && cs.all (fun c => match G.xc[c]? with | some (_, [f']) => decide (f' = f) | _ => false) | none => false)
  | .xis i x tb, e => (match asCall e with | some (g, [y, z], []) => nmB G sc "isinstance" g && notStar y && notStar z && vrX N sc i y && clX sc x z && tb.all (fun p => G.xs.contains (x, p.1, p.2)) | _ => false)
  | .xit i tbs, e => (match asCall e with | some (g, [y, z], []) => nmB G sc "isinstance" g && notStar y && notStar z && vrX N sc i y && (match asTup z with | some es => clXs G sc tbs es && decide (es ≠ []) && decide (es.length ≤ 100) | none => false) | _ => false)
  | _, _ => false
def hEs : MEs → List Expr → Bool
  | .nil, [] => true
  | .cons m ms, e :: es => notStar e && hE m e && hEs ms es
  | _, _ => false
def hAnd : MEs → List Expr → Bool
  | .cons m .nil, [e] => hE m e
  | .cons m ms, e :: f :: es => hE m e && hAnd ms (f :: es)
  | _, _ => false
def hF : MF → Expr → Bool
  | .lst ms, e => (match asLst e with | some es => hEs ms es | none => false)
  | .cat a b, e => (match asBin e with | some (x, .Add, y) => hE a x && hE b y | _ => false)
  | _, _ => false
end
mutual
def hQ : MQ → Expr → Bool
  | .andQ qs, e => (match asBool e with | some (.And, es) => hQs qs es | _ => false)
  | .orQ qs, e => (match asBool e with | some (.Or, es) => hQs qs es | _ => false)
  | .notQ q, e => (match asUn e with | some (.Not, x) => hQ q x | _ => false)
  | .cmpQ o a b, e => (match asCmp e with | some (x, [p], [y]) => opCB o p && notSet y && hE G N sc a x && hE G N sc b y | _ => false)
  | .val m, e => plainTest e && hE G N sc m e
  | _, _ => false
def hQs : MQs → List Expr → Bool
  | .cons q .nil, [e] => hQ q e
  | .cons q qs, e :: f :: es => hQ q e && hQs qs (f :: es)
  | _, _ => false
end
end
/-- the suite's context holds the exception q -/
def SuiteAt (X : Cx) (Z : Ev) (q : XH) : Prop := ∃ Y oe pn C, X = Cx.suite Y q.a ((q.a, oe) :: pn) ∧ Zc (.ref C) q.d oe ∧ (∃ vs, oe.data = .fields vs) ∧ Z.xm[q.c]? = some C ∧ Z.xf[q.c]? = some q.fs
theorem nmH_ {X : Cx} {Z : Ev} {G : Gi} (g : GdH X Z G) {x : Str} {e : Expr} (h : nmB G X.env.scope x e = true) : ∃ p, e = .Name x p ∧ Gl X x ∧ X.mg x = none := by
  unfold nmB at h
  split at h
  · rename_i y hy
    obtain ⟨p, rfl⟩ := asName_ hy
    simp only [Bool.and_eq_true, decide_eq_true_eq] at h
    obtain ⟨⟨rfl, h2⟩, h3⟩ := h
    exact ⟨p, rfl, glB_ h2, g.bl _ h3⟩
  · cases h
theorem vrX_ {N : List Str} {sc : Scope} {i : Nat} {e : Expr} (h : vrX N sc i e = true) : ∃ x p, e = .Name x p ∧ N[i]? = some x ∧ Vis sc x ∧ (x == ("__debug__" : Str)) = false ∧ (x == ("__classdict__" : Str)) = false := by
  unfold vrX at h
  split at h
  · rename_i x hx
    obtain ⟨p, rfl⟩ := asName_ hx
    simp only [Bool.and_eq_true, decide_eq_true_eq, Bool.not_eq_true'] at h
    exact ⟨x, p, rfl, h.1.1.1, visB_ h.1.1.2, h.1.2, h.2⟩
  · cases h
theorem raisT_f {K : PySem.W.Frag} {mg : Str → Option Value} {C : Addr} {x f : Str} (T : RaisT K mg C x [f]) : XfC K C ∧ PySem.W.findIn K (.ref C) f = some none := by
  rcases T with ⟨rfl, qi, fI, T⟩ | ⟨rfl, qi, fI, T⟩ | ⟨rfl, qi, fI, T⟩ <;> exact ⟨⟨T.ga, T.gg, T.exC, T.hdC⟩, T.noN⟩
section
variable {X : Cx} {Z : Ev} {G : Gi} (g : GdH X Z G) (hx : ∀ q, Z.hx = some q → SuiteAt X Z q)
include g hx
theorem sh_xfl {i : Nat} {f x : Str} {cs : List Nat} {p pos : Pos} (hN : X.N[i]? = some x) (hv : Vis X.env.scope x) (d1 : (x == ("__debug__" : Str)) = false) (d2 : (x == ("__classdict__" : Str)) = false) (hb : plainBs (.Name x p) = true)
    (hall : cs.all (fun c => match G.xc[c]? with | some (_, [f']) => decide (f' = f) | _ => false) = true) : PE X (.Attribute (.Name x p) f pos) (tE X.K Z (.xfl i f cs)) := by
  refine ⟨fun pins s σ H Q I h => ?_⟩
  obtain ⟨δ, st0, ρ, F, st, lo, po⟩ := h
  simp only [evalE] at po
  split at po
  · rename_i c v hδ
    split at po
    · rename_i hcs
      obtain ⟨ω, l⟩ := id lo
      obtain ⟨q, e1, e0, e2, e3, e4, e5⟩ := l.exo i c [v] hδ
      obtain ⟨Y, oe, pn, C, rfl, hz, hf, h1, h2⟩ := hx q e1
      have hc := List.all_eq_true.mp hall c (by simpa using hcs)
      split at hc
      · rename_i y f' hxc
        obtain rfl : f' = f := of_decide_eq_true hc
        obtain ⟨C', b1, b2, T⟩ := g.exc c _ _ hxc
        subst e2
        rw [h1] at b1; cases b1
        rw [h2] at b2
        have hfs : q.fs = [f'] := by simpa using b2
        obtain ⟨T1, T2⟩ := raisT_f T
        obtain ⟨qi, qa, qc, qvs, qd, qfs⟩ := q
        simp only at e3 hfs h2 hz e4 e5 h1
        subst e3 hfs
        unfold XFld at e5
        cases qd with
        | none => exact e5.elim
        | some dd =>
          obtain ⟨_, u, hu, ru⟩ := e5
          exact (pe_xf (X := Y) (a := qa) (C := C) (oe := oe) (cls := .ref C) (d := some dd) (pn := pn) T1 T2 hz hf (pe_var hN hv d1 d2) (bs_ hb _ _ _)).run pins s σ H Q I ⟨_, e4, rfl, rfl, dd, [(f', u)], u, rfl, hu, by simp [List.lookup], po.now st ru⟩
      · cases hc
    · exact po.elim
  · exact po.elim
/-- a class's name in a suite -/
theorem sh_cls {x : Str} {c : Nat} {b : Bool} {p : Pos} (hg : Gl X x) (hd : (x == ("__debug__" : Str)) = false) (hm : (x, c, b) ∈ G.xs) :
    ∃ C vv v, RelV vv v ∧ (∀ u, RelV vv u → u = v) ∧ Z.xm[c]? = some C ∧ PE X (.Name x p) (tC vv) ∧ PySem.W.exmOne X.K (.ref C) v = some b ∧ PySem.W.kitOne X.K (.ref C) v = some b ∧ ExcC X.K C := by
  obtain ⟨C, vv, v, r, ru, h1, hn, h2, h3, h4⟩ := g.xs _ hm
  refine ⟨C, vv, v, r, ru, h1, ?_, h2, h3, h4⟩
  rcases hn with hn | ⟨hn, hb, hne⟩
  · exact pe_glob hg hn r hd
  · exact pe_bltn hg hn hb r hne hd
theorem sh_xis {i : Nat} {x y : Str} {tb : List (Nat × Bool)} {p p2 p3 q : Pos} (hN : X.N[i]? = some y) (hv : Vis X.env.scope y) (d1 : (y == ("__debug__" : Str)) = false) (d2 : (y == ("__classdict__" : Str)) = false) (hg : Gl X "isinstance") (hm : X.mg "isinstance" = none)
    (hg2 : Gl X x) (hd : (x == ("__debug__" : Str)) = false) (hall : tb.all (fun p => G.xs.contains (x, p.1, p.2)) = true) : PE X (.Call (.Name "isinstance" p) [.Name y p2, .Name x p3] [] q) (tE X.K Z (.xis i x tb)) := by
  refine ⟨fun pins s σ H Q I h => ?_⟩
  obtain ⟨δ, st0, ρ, F, st, lo, po⟩ := h
  simp only [evalE] at po
  split at po
  · rename_i c vs hδ
    obtain ⟨z, hz0, po2⟩ := Post.lift po
    clear po
    rw [Option.map_eq_some_iff] at hz0
    obtain ⟨b, hb, rfl⟩ := hz0
    have hin : (x, c, b) ∈ G.xs := by
      have := List.all_eq_true.mp hall (c, b) (by
        have : ∀ (l : List (Nat × Bool)), l.lookup c = some b → (c, b) ∈ l := fun l => by
          induction l with
          | nil => intro h; cases h
          | cons a l ih =>
            intro h
            obtain ⟨a1, a2⟩ := a
            simp only [List.lookup] at h
            split at h
            · rename_i e; cases h; have e : c = a1 := by simpa using e
              rw [e]; exact List.mem_cons_self
            · exact List.mem_cons_of_mem _ (ih h)
        exact this tb hb)
      simpa using this
    obtain ⟨ω, l⟩ := id lo
    obtain ⟨qq, e1, e0, e2, e3, e4, e5⟩ := l.exo i c vs hδ
    obtain ⟨C, vv, v, r, ru, b1, pc, bx, bk, be⟩ := sh_cls (p := p3) g hx hg2 hd hin
    obtain ⟨Y, oe, pn, C', rfl, hz, hf, h1, h2⟩ := hx qq e1
    subst e2
    rw [h1] at b1; cases b1
    have hA : PA (Cx.suite Y qq.a ((qq.a, oe) :: pn)) [.Name y p2, .Name x p3] _ := pa_cons (pe_var hN hv d1 d2) (pa_cons pc pa_nil (starEach_ rfl _ _)) (starEach_ rfl _ _)
    obtain ⟨qi, qa, qc, qvs, qd, qfs⟩ := qq
    simp only at e3 h2 hz e4 e5 h1
    cases qd with
    | none => exact (pe_callB (call_isE (X := Y) (a := qa) (oe := oe) (pn := pn) be hz hf) hg hm boot_isinstance hA (by decide +kernel) (by decide +kernel) (starEach_ rfl _ _) (nostars _ _ rfl)).run pins s σ H Q I ⟨_, e4, vv, v, b, rfl, ru, bk, po2.now st (.bl b)⟩
    | some dd =>
      have hxd : ∃ fs, H dd = some (.xd fs) := by
        unfold XFld at e5
        split at e5
        · rename_i h _ ; cases h
        · rename_i h _; cases h; obtain ⟨_, u, hu, _⟩ := e5; exact ⟨_, hu⟩
        · exact e5.elim
      obtain ⟨fs, hfs⟩ := hxd
      exact (pe_callB (call_isF (X := Y) (a := qa) (oe := oe) (pn := pn) (dd := dd) be hz hf) hg hm boot_isinstance hA (by decide +kernel) (by decide +kernel) (starEach_ rfl _ _) (nostars _ _ rfl)).run pins s σ H Q I ⟨_, e4, vv, v, b, fs, rfl, hfs, ru, bk, po2.now st (.bl b)⟩
  · exact po.elim
end
/-- isinstance(e, (C, ..)) -/
theorem kit_of {X : Cx} {a D : Addr} {oe : Obj} {d : Option Addr} {pn pins : List (Addr × Obj)} {σ : L2.St} {H : Hp} {s : Shared} (C : ExcC X.K D) (hz : Zc (.ref D) d oe) (hf : ∃ vs, oe.data = .fields vs) (hd : ∀ dd, d = some dd → ∃ fs, H dd = some (.xd fs))
    (I : Inv (Cx.suite X a ((a, oe) :: pn)) pins σ H s) : ∃ od, PySem.W.InstAt s.heap a oe D od ∧ PySem.W.KitX X.K (.ref a) (.ref D) (fun h => PySem.W.InstAt h a oe D od) := by
  obtain ⟨hget, _⟩ := I.pin (a, oe) (List.mem_append.mpr (.inl List.mem_cons_self))
  obtain ⟨vs, hv⟩ := hf
  cases d with
  | none =>
    refine ⟨none, ?_, PySem.W.handS_kitx_exc C.hg C.hk C.hs C.hd C.ha C.hn C.ht C.hm⟩
    obtain ⟨oc, od, oda, osl⟩ := oe
    obtain ⟨h1, h2⟩ := hz
    dsimp only at h1 h2 hv
    subst h1 h2 hv
    exact ⟨hget, rfl, rfl, trivial⟩
  | some dd =>
    obtain ⟨fs, ea⟩ := hd dd rfl
    have hx : ObjOk X.prog X.w H s.heap dd (.xd fs) := I.hok dd _ ea
    obtain ⟨mA, hns, hr⟩ := hx
    obtain ⟨od, ho, hl⟩ := lookIn_ns hns
    exact ⟨some od, ⟨hget, hz.1, by unfold PySem.W.notCls; rw [hv] <;> rfl, by rw [hz.2]; exact ho⟩, PySem.W.exc_kitx C⟩
def rIsT (K : PySem.W.Frag) (D a : Addr) (d : Option Addr) : List V → Hp → VK → Prop := fun xs H Q => ∃ (tp : Addr) (cs : List V) (us : List Value) (b : Bool), xs = [.ref a, .ref tp] ∧ H tp = some (.tup cs) ∧ Paired (fun c cv => ∀ u, RelV c u → u = cv) cs us ∧
  (∀ dd, d = some dd → ∃ fs, H dd = some (.xd fs)) ∧ PySem.W.kitAny K (.ref D) us = some b ∧ Q (.bl b) H
theorem pair_vals : ∀ {cs : List V} {us its : List Value}, Paired (fun c cv => ∀ u, RelV c u → u = cv) cs us → Vals cs its → its = us
  | _, _, _, .nil, r => by cases r; rfl
  | _, _, _, .cons h t, r => by cases r with | cons h' t' => rw [h _ h', pair_vals t t']
theorem call_isT {X : Cx} {a D : Addr} {oe : Obj} {d : Option Addr} {pn : List (Addr × Obj)} (C : ExcC X.K D) (hz : Zc (.ref D) d oe) (hf : ∃ vs, oe.data = .fields vs) : CallR (Cx.suite X a ((a, oe) :: pn)) (.builtin "isinstance") (rIsT X.K D a d) := by
  intro pins s σ H xs us Q I r h
  obtain ⟨tp, cs, ws, b, rfl, ht, hp, hd, e, q⟩ := h
  cases r with
  | cons rx rr =>
    cases rr with
    | cons rt rr =>
      cases rr
      cases rx
      cases rt
      obtain ⟨od, J, Z⟩ := kit_of C hz hf hd I
      obtain ⟨_, its, rv, o, ho, hc, n, hdt⟩ := (show ObjOk X.prog X.w H s.heap tp (.tup cs) from I.hok tp _ ht)
      obtain rfl := pair_vals hp rv
      obtain ⟨ocl, odd, oda, osl⟩ := o
      dsimp only at hc hdt
      subst hc hdt
      exact PySem.W.kia_tup Z I.kIn J ho e (fun z => nomatch z) fun tk => ⟨.bl b, H, I.kept (t' := tk) fun _ _ z => z, rfl, q⟩
theorem look_mem {α : Type} {c : Nat} {b : α} : ∀ (l : List (Nat × α)), l.lookup c = some b → (c, b) ∈ l
  | [], h => by cases h
  | (a1, a2) :: l, h => by
    simp only [List.lookup] at h
    split at h
    · rename_i e; cases h; have e : c = a1 := by simpa using e
      rw [e]; exact List.mem_cons_self
    · exact List.mem_cons_of_mem _ (look_mem l h)
section
variable {X : Cx} {Z : Ev} {G : Gi} (g : GdH X Z G) (hx : ∀ q, Z.hx = some q → SuiteAt X Z q)
include g hx
/-- the classes' names, one after the other: those that the answer leans on -/
theorem sh_clss (c : Nat) {C : Addr} (hC : Z.xm[c]? = some C) : ∀ (tbs : List (Str × List (Nat × Bool))) (es : List Expr) (b : Bool), clXs G X.env.scope tbs es = true → anyT c tbs = some b →
    ∃ (cs : List V) (us : List Value) (t : TA), PA X es t ∧ es.all notStar = true ∧ (∀ σ H Q, Q cs H → t σ H Q) ∧ Paired (fun c cv => ∀ u, RelV c u → u = cv) cs us ∧ cs.length = es.length ∧ PySem.W.kitAny X.K (.ref C) us = some b ∧ (es ≠ [] → ExcC X.K C)
  | [], [], b, h, e => by cases e; exact ⟨[], [], tNil, pa_nil, rfl, fun _ _ _ q => q, .nil, rfl, rfl, fun z => absurd rfl z⟩
  | [], _ :: _, _, h, _ => by simp [clXs] at h
  | _ :: _, [], _, h, _ => by simp [clXs] at h
  | (x, tb) :: r, e :: es, b, h, ha => by
    simp only [clXs, Bool.and_eq_true] at h
    obtain ⟨⟨⟨h1, h2⟩, h3⟩, h4⟩ := h
    unfold clX at h1
    split at h1
    · rename_i y hy
      obtain ⟨p, rfl⟩ := asName_ hy
      simp only [Bool.and_eq_true, decide_eq_true_eq, Bool.not_eq_true'] at h1
      obtain ⟨⟨rfl, hg⟩, hd⟩ := h1
      have more : ∃ b1 b2, tb.lookup c = some b1 ∧ anyT c r = some b2 ∧ b = (b1 || b2) := by
        simp only [anyT] at ha
        split at ha
        · rename_i b1 b2 q1 q2; cases ha; exact ⟨b1, b2, q1, q2, rfl⟩
        · cases ha
      obtain ⟨b1, b2, hb1, hb2, rfl⟩ := more
      have hin : (y, c, b1) ∈ G.xs := by simpa using List.all_eq_true.mp h3 (c, b1) (look_mem tb hb1)
      obtain ⟨C', vv, v, r', ru, e1, pc, bx, bk, be⟩ := sh_cls (p := p) g hx (glB_ hg) hd hin
      rw [hC] at e1; cases e1
      obtain ⟨cs, us, t, pt, ns, ht, hp, hl, hk, _⟩ := sh_clss c hC r es b2 h4 hb2
      refine ⟨vv :: cs, v :: us, _, pa_cons pc pt (starEach_ rfl _ _), by simp [ns, notStar], fun σ H Q q => ?_, .cons ru hp, by simp [hl], ?_, fun _ => be⟩
      · exact ht σ H _ q
      · unfold PySem.W.kitAny
        rw [bk]
        cases b1 with
        | true => rfl
        | false => exact hk
    · cases h1
theorem sh_xit {i : Nat} {y : Str} {tbs : List (Str × List (Nat × Bool))} {es : List Expr} {j : Nat} {p p2 p3 q : Pos} (hN : X.N[i]? = some y) (hv : Vis X.env.scope y) (d1 : (y == ("__debug__" : Str)) = false) (d2 : (y == ("__classdict__" : Str)) = false) (hg : Gl X "isinstance") (hm : X.mg "isinstance" = none)
    (hall : clXs G X.env.scope tbs es = true) (hne : es ≠ []) (hfew : es.length ≤ 100) : PE X (.Call (.Name "isinstance" p) [.Name y p2, .Tuple es j p3] [] q) (tE X.K Z (.xit i tbs)) := by
  refine ⟨fun pins s σ H Q I h => ?_⟩
  obtain ⟨δ, st0, ρ, F, st, lo, po⟩ := h
  simp only [evalE] at po
  split at po
  · rename_i c vs hδ
    obtain ⟨z, hz0, po2⟩ := Post.lift po
    clear po
    rw [Option.map_eq_some_iff] at hz0
    obtain ⟨b, hb, rfl⟩ := hz0
    obtain ⟨ω, l⟩ := id lo
    obtain ⟨qq, e1, e0, e2, e3, e4, e5⟩ := l.exo i c vs hδ
    subst e2
    obtain ⟨Y, oe, pn, C, rfl, hz, hf, h1, h2⟩ := hx qq e1
    obtain ⟨cs, us, t, pt, ns, ht, hp, hl, hk, be⟩ := sh_clss g hx qq.c h1 tbs es b hall hb
    have be := be hne
    have few : cs.length ≤ sizeLine := by rw [hl, sizeLine_eq]; omega
    have hA : PA (Cx.suite Y qq.a ((qq.a, oe) :: pn)) [.Name y p2, .Tuple es j p3] _ := pa_cons (pe_var hN hv d1 d2) (pa_cons (pe_tup pt) pa_nil (starEach_ rfl _ _)) (starEach_ rfl _ _)
    obtain ⟨qi, qa, qc, qvs, qd, qfs⟩ := qq
    simp only at e3 h2 hz e4 e5 h1
    have hxd : ∀ dd, qd = some dd → ∃ fs, H dd = some (.xd fs) := fun dd e => by
      subst e
      unfold XFld at e5
      split at e5
      · rename_i h _ ; cases h
      · rename_i h _; cases h; obtain ⟨_, u, hu, _⟩ := e5; exact ⟨_, hu⟩
      · exact e5.elim
    refine (pe_callB (call_isT (X := Y) (a := qa) (oe := oe) (pn := pn) be hz hf) hg hm boot_isinstance hA (by decide +kernel) (by decide +kernel) (starEach_ rfl _ _) (nostars _ _ rfl)).run pins s σ H Q I ⟨_, e4, ht σ H _ ⟨few, fun tp htp => ?_⟩⟩
    have al : Ext ρ F H st0 ρ F (upd H tp (.tup cs)) st0 := Ext.alloc htp
    refine ⟨tp, cs, us, b, rfl, upd_same, hp, fun dd e => ?_, hk, po2 (.bl b) ρ F _ al (st.alloc htp) (.bl b)⟩
    obtain ⟨fs, hfs⟩ := hxd dd e
    exact ⟨fs, by rw [upd_ne (ne_of_none hfs htp)]; exact hfs⟩
  · exact po.elim
end

mutual
theorem sh_E {X : Cx} {Z : Ev} {G : Gi} (g : GdH X Z G) (hx : ∀ q, Z.hx = some q → SuiteAt X Z q) : ∀ (m : ME) (e : Expr), hE G X.N X.env.scope m e = true → PE X e (tE X.K Z m)
  | .int i, e, h => by
    simp only [hE] at h
    split at h
    · rename_i j hj
      obtain ⟨_, _, rfl⟩ := asConst_ hj
      have h := of_decide_eq_true h
      subst h
      exact se_const g pe_int (fun _ _ => by simp only [evalE]) fun _ _ => .int _
    · cases h
  | .str z, e, h => by
    simp only [hE] at h
    split at h
    · rename_i j hj
      obtain ⟨_, _, rfl⟩ := asConst_ hj
      have h := of_decide_eq_true h
      subst h
      exact se_const g pe_str (fun _ _ => by simp only [evalE]) fun _ _ => .str _
    · cases h
  | .non, e, h => by
    simp only [hE] at h
    split at h
    · rename_i hj
      obtain ⟨_, _, rfl⟩ := asConst_ hj
      exact se_const g pe_non (fun _ _ => by simp only [evalE]) fun _ _ => .non
    · cases h
  | .bl b, e, h => by
    simp only [hE] at h
    split at h
    · rename_i j hj
      obtain ⟨_, _, rfl⟩ := asConst_ hj
      have h := of_decide_eq_true h
      subst h
      exact se_const g pe_bl (fun _ _ => by simp only [evalE]) fun _ _ => .bl _
    · cases h
  | .var i, e, h => by
    simp only [hE] at h
    obtain ⟨x, p, rfl, h1, h2, h3, h4⟩ := vrX_ h
    exact se_var g h1 h2 h3 h4
  | .cmp o a b, e, h => by
    simp only [hE] at h
    split at h
    · rename_i x p y hx'
      obtain ⟨_, rfl⟩ := asCmp_ hx'
      simp only [Bool.and_eq_true] at h
      obtain ⟨⟨⟨h1, h2⟩, h3⟩, h4⟩ := h
      have h1 := opCB_ h1
      subst h1
      exact se_cmp g h2 (sh_E g hx a x h3) (sh_E g hx b y h4)
    · cases h
  | .andL ms, e, h => by
    simp only [hE] at h
    split at h
    · rename_i es hx'
      obtain ⟨p, rfl⟩ := asBool_ hx'
      exact (sh_And g hx ms es p h).conseq fun σ H Q q => by simp only [tE, evalE] at q; exact q
    · cases h
  | .orL ms, e, h => by
    simp only [hE] at h
    split at h
    · rename_i es hx'
      obtain ⟨p, rfl⟩ := asBool_ hx'
      exact (sh_Or g hx ms es p h).conseq fun σ H Q q => by simp only [tE, evalE] at q; exact q
    · cases h
  | .notE a, e, h => by
    simp only [hE] at h
    split at h
    · rename_i x hx'
      obtain ⟨_, rfl⟩ := asUn_ hx'
      exact se_not g (sh_E g hx a x h)
    · cases h
  | .tup ms, e, h => by
    simp only [hE] at h
    split at h
    · rename_i es hx'
      obtain ⟨_, _, rfl⟩ := asTup_ hx'
      exact se_tup g (sh_Es g hx ms es h)
    · cases h
  | .isi a t, e, h => by
    simp only [hE] at h
    split at h
    · rename_i f' x y hx'
      obtain ⟨_, rfl⟩ := asCall_ hx'
      simp only [Bool.and_eq_true] at h
      obtain ⟨⟨⟨⟨h1, h2⟩, h3⟩, h4⟩, h5⟩ := h
      obtain ⟨p, rfl, hg, hm⟩ := nmH_ g h1
      obtain ⟨p2, rfl, hg2, hm2⟩ := nmH_ g h2
      exact se_isi hg hm hg2 hm2 h3 (sh_E g hx a x h5)
    · cases h
  | .fz f, e, h => by
    simp only [hE] at h
    exact se_fz g (sh_F g hx f e h)
  | .xfl i f cs, e, h => by
    simp only [hE] at h
    split at h
    · rename_i o n hx'
      obtain ⟨_, rfl⟩ := asAttr_ hx'
      simp only [Bool.and_eq_true, decide_eq_true_eq] at h
      obtain ⟨⟨⟨rfl, h2⟩, h3⟩, h4⟩ := h
      obtain ⟨x, p, rfl, a1, a2, a3, a4⟩ := vrX_ h3
      exact sh_xfl g hx a1 a2 a3 a4 h2 h4
    · cases h
  | .xis i x tb, e, h => by
    simp only [hE] at h
    split at h
    · rename_i g' y z hx'
      obtain ⟨_, rfl⟩ := asCall_ hx'
      simp only [Bool.and_eq_true] at h
      obtain ⟨⟨⟨⟨⟨h1, h2⟩, h3⟩, h4⟩, h5⟩, h6⟩ := h
      obtain ⟨p, rfl, hg, hm⟩ := nmH_ g h1
      obtain ⟨x', p', rfl, a1, a2, a3, a4⟩ := vrX_ h4
      unfold clX at h5
      split at h5
      · rename_i w hw
        obtain ⟨p3, rfl⟩ := asName_ hw
        simp only [Bool.and_eq_true, decide_eq_true_eq, Bool.not_eq_true'] at h5
        obtain ⟨⟨rfl, b1⟩, b2⟩ := h5
        exact sh_xis g hx a1 a2 a3 a4 hg hm (glB_ b1) b2 h6
      · cases h5
    · cases h
  | .xit i tbs, e, h => by
    simp only [hE] at h
    split at h
    · rename_i g' y z hx'
      obtain ⟨_, rfl⟩ := asCall_ hx'
      simp only [Bool.and_eq_true] at h
      obtain ⟨⟨⟨⟨h1, h2⟩, h3⟩, h4⟩, h5⟩ := h
      obtain ⟨p, rfl, hg, hm⟩ := nmH_ g h1
      obtain ⟨x', p', rfl, a1, a2, a3, a4⟩ := vrX_ h4
      split at h5
      · rename_i es hes
        obtain ⟨_, _, rfl⟩ := asTup_ hes
        simp only [Bool.and_eq_true, decide_eq_true_eq] at h5
        exact sh_xit g hx a1 a2 a3 a4 hg hm h5.1.1 h5.1.2 h5.2
      · cases h5
    · cases h
  | .gc _ _, _, h => by simp [hE] at h
  | .bin _ _ _, _, h => by simp [hE] at h
  | .neg _, _, h => by simp [hE] at h
  | .chain _ _ _ _ _, _, h => by simp [hE] at h
  | .ife _ _ _, _, h => by simp [hE] at h
  | .idx _ _, _, h => by simp [hE] at h
  | .cutS _ _ _, _, h => by simp [hE] at h
  | .peek _ _, _, h => by simp [hE] at h
  | .bi _ _, _, h => by simp [hE] at h
  | .bm _ _ _, _, h => by simp [hE] at h
  | .newL _, _, h => by simp [hE] at h
  | .dct0, _, h => by simp [hE] at h
  | .dct1 _ _, _, h => by simp [hE] at h
  | .newI _, _, h => by simp [hE] at h
  | .peekI _ _, _, h => by simp [hE] at h
  | .isiC _ _ _, _, h => by simp [hE] at h
  | .lenSet _, _, h => by simp [hE] at h
  | .dft _ _ _, _, h => by simp [hE] at h
theorem sh_Es {X : Cx} {Z : Ev} {G : Gi} (g : GdH X Z G) (hx : ∀ q, Z.hx = some q → SuiteAt X Z q) : ∀ (ms : MEs) (es : List Expr), hEs G X.N X.env.scope ms es = true → PA X es (tEs X.K Z ms)
  | .nil, [], _ => sa_nil g
  | .cons m ms, e :: es, h => by
    simp only [hEs, Bool.and_eq_true] at h
    exact sa_cons g h.1.1 (sh_E g hx m e h.1.2) (sh_Es g hx ms es h.2)
  | .nil, _ :: _, h => by simp [hEs] at h
  | .cons _ _, [], h => by simp [hEs] at h
theorem sh_And {X : Cx} {Z : Ev} {G : Gi} (g : GdH X Z G) (hx : ∀ q, Z.hx = some q → SuiteAt X Z q) : ∀ (ms : MEs) (es : List Expr) (p : Pos), hAnd G X.N X.env.scope ms es = true → PE X (.BoolOp .And es p) (tAnd X.K Z ms)
  | .cons m .nil, [e], p, h => by
    simp only [hAnd] at h
    exact sand_one g (sh_E g hx m e h)
  | .cons m (.cons m2 ms), e :: f :: es, p, h => by
    simp only [hAnd, Bool.and_eq_true] at h
    exact sand_cons g (by simp) (sh_E g hx m e h.1) (sh_And g hx (.cons m2 ms) (f :: es) p h.2)
  | .cons m .nil, e :: f :: es, p, h => by simp [hAnd] at h
  | .cons m (.cons m2 ms), [e], p, h => by simp [hAnd] at h
  | .nil, _, p, h => by simp [hAnd] at h
  | .cons _ _, [], p, h => by simp [hAnd] at h
theorem sh_Or {X : Cx} {Z : Ev} {G : Gi} (g : GdH X Z G) (hx : ∀ q, Z.hx = some q → SuiteAt X Z q) : ∀ (ms : MEs) (es : List Expr) (p : Pos), hAnd G X.N X.env.scope ms es = true → PE X (.BoolOp .Or es p) (tOr X.K Z ms)
  | .cons m .nil, [e], p, h => by
    simp only [hAnd] at h
    exact sor_one g (sh_E g hx m e h)
  | .cons m (.cons m2 ms), e :: f :: es, p, h => by
    simp only [hAnd, Bool.and_eq_true] at h
    exact sor_cons g (by simp) (sh_E g hx m e h.1) (sh_Or g hx (.cons m2 ms) (f :: es) p h.2)
  | .cons m .nil, e :: f :: es, p, h => by simp [hAnd] at h
  | .cons m (.cons m2 ms), [e], p, h => by simp [hAnd] at h
  | .nil, _, p, h => by simp [hAnd] at h
  | .cons _ _, [], p, h => by simp [hAnd] at h
theorem sh_F {X : Cx} {Z : Ev} {G : Gi} (g : GdH X Z G) (hx : ∀ q, Z.hx = some q → SuiteAt X Z q) : ∀ (m : MF) (e : Expr), hF G X.N X.env.scope m e = true → PE X e (tF X.K Z m)
  | .lst ms, e, h => by
    simp only [hF] at h
    split at h
    · rename_i es hx'
      obtain ⟨_, rfl⟩ := asLst_ hx'
      exact sf_lst g (sh_Es g hx ms es h)
    · cases h
  | .cat a b, e, h => by
    simp only [hF] at h
    split at h
    · rename_i x y hx'
      obtain ⟨_, rfl⟩ := asBin_ hx'
      simp only [Bool.and_eq_true] at h
      exact sf_cat (sh_E g hx a x h.1) (sh_E g hx b y h.2)
    · cases h
  | .comp _ _ _ _ _, _, h => by simp [hF] at h
  | .cutL _ _ _, _, h => by simp [hF] at h
  | .rev _, _, h => by simp [hF] at h
  | .rep _ _, _, h => by simp [hF] at h
  | .bf _ _, _, h => by simp [hF] at h
  | .call _ _, _, h => by simp [hF] at h
  | .meth _ _ _ _, _, h => by simp [hF] at h
  | .repE _ _, _, h => by simp [hF] at h
  | .lrange _, _, h => by simp [hF] at h
  | .sortK _ _, _, h => by simp [hF] at h
end
mutual
theorem sh_Q {X : Cx} {Z : Ev} {G : Gi} (g : GdH X Z G) (hx : ∀ q, Z.hx = some q → SuiteAt X Z q) : ∀ (m : MQ) (e : Expr), hQ G X.N X.env.scope m e = true → PT X e (tQ X.K Z m)
  | .andQ qs, e, h => by
    simp only [hQ] at h
    split at h
    · rename_i es hx'
      obtain ⟨p, rfl⟩ := asBool_ hx'
      exact (sh_AndT g hx qs es p h).pt.conseq fun σ H Q q => by simp only [tQ, evalT] at q; exact q
    · cases h
  | .orQ qs, e, h => by
    simp only [hQ] at h
    split at h
    · rename_i es hx'
      obtain ⟨p, rfl⟩ := asBool_ hx'
      exact (sh_OrT g hx qs es p h).pt.conseq fun σ H Q q => by simp only [tQ, evalT] at q; exact q
    · cases h
  | .notQ q, e, h => by
    simp only [hQ] at h
    split at h
    · rename_i x hx'
      obtain ⟨_, rfl⟩ := asUn_ hx'
      exact sq_not g (sh_Q g hx q x h)
    · cases h
  | .cmpQ o a b, e, h => by
    simp only [hQ] at h
    split at h
    · rename_i x p y hx'
      obtain ⟨_, rfl⟩ := asCmp_ hx'
      simp only [Bool.and_eq_true] at h
      obtain ⟨⟨⟨h1, h2⟩, h3⟩, h4⟩ := h
      have h1 := opCB_ h1
      subst h1
      exact sq_cmp g h2 (sh_E g hx a x h3) (sh_E g hx b y h4)
    · cases h
  | .val m, e, h => by
    simp only [hQ, Bool.and_eq_true] at h
    exact sq_val g h.1 (sh_E g hx m e h.2)
  | .chainQ _ _ _ _ _, _, h => by simp [hQ] at h
  | .yes, _, h => by simp [hQ] at h
theorem sh_AndT {X : Cx} {Z : Ev} {G : Gi} (g : GdH X Z G) (hx : ∀ q, Z.hx = some q → SuiteAt X Z q) : ∀ (qs : MQs) (es : List Expr) (p : Pos), hQs G X.N X.env.scope qs es = true → PW X (.BoolOp .And es p) (tAndT X.K Z qs)
  | .cons m .nil, [e], p, h => by
    simp only [hQs] at h
    exact sandT_one g (sh_Q g hx m e h)
  | .cons m (.cons m2 ms), e :: f :: es, p, h => by
    simp only [hQs, Bool.and_eq_true] at h
    exact sandT_cons g (by simp) (sh_Q g hx m e h.1) (sh_AndT g hx (.cons m2 ms) (f :: es) p h.2)
  | .cons m .nil, e :: f :: es, p, h => by simp [hQs] at h
  | .cons m (.cons m2 ms), [e], p, h => by simp [hQs] at h
  | .cons m ms, [], p, h => by cases ms <;> simp [hQs] at h
  | .nil, _, p, h => by simp [hQs] at h
theorem sh_OrT {X : Cx} {Z : Ev} {G : Gi} (g : GdH X Z G) (hx : ∀ q, Z.hx = some q → SuiteAt X Z q) : ∀ (qs : MQs) (es : List Expr) (p : Pos), hQs G X.N X.env.scope qs es = true → PW X (.BoolOp .Or es p) (tOrT X.K Z qs)
  | .cons m .nil, [e], p, h => by
    simp only [hQs] at h
    exact sorT_one g (sh_Q g hx m e h)
  | .cons m (.cons m2 ms), e :: f :: es, p, h => by
    simp only [hQs, Bool.and_eq_true] at h
    exact sorT_cons g (by simp) (sh_Q g hx m e h.1) (sh_OrT g hx (.cons m2 ms) (f :: es) p h.2)
  | .cons m .nil, e :: f :: es, p, h => by simp [hQs] at h
  | .cons m (.cons m2 ms), [e], p, h => by simp [hQs] at h
  | .cons m ms, [], p, h => by cases ms <;> simp [hQs] at h
  | .nil, _, p, h => by simp [hQs] at h
end
end Mn
set_option Elab.async false
set_option linter.all false
set_option maxRecDepth 100000
set_option maxHeartbeats 4000000
/-! The small language is sound: what statements do to the heap. -/
namespace Mn
open PySem L2 PyProof.Rows

section
variable {K : PySem.W.Frag} {cm : List Addr} {nm : List Str} {H0 : Hx} {ρ ρ' : List Addr} {F F' H H' : Hp} {s s' : Sto} {σ : L2.St} {δ : Lcs}

/-- a list that the def alone holds is changed -/
theorem LocOk.grow (st : StOk K cm nm ρ F H s) (lo : LocOk K H0 ρ F H σ δ) {i : Nat} {xs : List D} (h : δ[i]? = some (some (.l xs))) : ∃ p vs, σ[i]? = some (some (.ref p)) ∧ H p = some (.lst vs) ∧ RepL K ρ F vs xs ∧ H0.h p = none ∧ F p = none ∧ p ∉ ρ ∧
    ∀ vs' ys, RepL K ρ F vs' ys → LocOk K H0 ρ F (upd H p (.lst vs')) σ (δ.set i (some (.l ys))) ∧ StOk K cm nm ρ F (upd H p (.lst vs')) s := by
  obtain ⟨ω, l⟩ := id lo
  obtain ⟨h1, ⟨vs, h2, h3⟩, h4, h5, h6⟩ := l.own i xs h
  have hi : i < δ.length := (List.getElem?_eq_some_iff.mp h).1
  refine ⟨ω i, vs, h1, h2, h3, h6, h4, h5, fun vs' ys r => ⟨⟨ω, by simpa using l.len, fun j d hj => ?_, fun j zs hj => ?_, fun j c zs hj => ?_, fun j j' zs ws hj hj' => ?_⟩, st.updOff h4 h5⟩⟩
  · by_cases q : i = j
    · subst q; rw [List.getElem?_set_self hi] at hj; cases hj
    · rw [List.getElem?_set_ne q] at hj; exact l.dat j d hj
  · by_cases q : i = j
    · subst q
      rw [List.getElem?_set_self hi] at hj
      cases hj
      exact ⟨h1, ⟨vs', upd_same, r⟩, h4, h5, h6⟩
    · rw [List.getElem?_set_ne q] at hj
      obtain ⟨a1, ⟨ws, a2, a3⟩, a4, a5, a6⟩ := l.own j zs hj
      have ne : ω j ≠ ω i := fun z => q (l.one j i zs xs hj h z).symm
      exact ⟨a1, ⟨ws, by rw [upd_ne ne]; exact a2, a3⟩, a4, a5, a6⟩
  · by_cases q : i = j
    · subst q; rw [List.getElem?_set_self hi] at hj; cases hj
    · rw [List.getElem?_set_ne q] at hj
      obtain ⟨y, a1, a0, a2, a3, a4, a5⟩ := l.exo j c zs hj
      exact ⟨y, a1, a0, a2, a3, a4, a5.upd h2⟩
  · have old : ∀ (k : Nat) (us : List D), (δ.set i (some (.l ys)))[k]? = some (some (.l us)) → ∃ us', δ[k]? = some (some (.l us')) := fun k us hk => by
      by_cases q : i = k
      · subst q; exact ⟨xs, h⟩
      · rw [List.getElem?_set_ne q] at hk; exact ⟨us, hk⟩
    obtain ⟨z1, e1⟩ := old _ _ hj
    obtain ⟨z2, e2⟩ := old _ _ hj'
    exact l.one j j' z1 z2 e1 e2
/-- a slot is given a list of its own -/
theorem LocOk.putOwn (lo : LocOk K H0 ρ F H σ δ) (i : Nat) {p : Addr} {vs : List V} {xs : List D} (hp : H p = some (.lst vs)) (r : RepL K ρ F vs xs) (hF : F p = none) (hc : p ∉ ρ) (h0 : H0.h p = none)
    (new : ∀ (j : Nat) (ys : List D) , δ[j]? = some (some (.l ys)) → σ[j]? ≠ some (some (.ref p))) : LocOk K H0 ρ F H (σ.set i (some (.ref p))) (δ.set i (some (.l xs))) := by
  obtain ⟨ω, l⟩ := lo
  have hlen := l.len
  have old : ∀ (k : Nat) (o : O), i ≠ k → (δ.set i (some (.l xs)))[k]? = some (some o) → δ[k]? = some (some o) := fun k o q hk => by rw [List.getElem?_set_ne q] at hk; exact hk
  have ne : ∀ (k : Nat) (ys : List D), δ[k]? = some (some (.l ys)) → ω k ≠ p := fun k ys hk z => new k ys hk (by rw [← z]; exact (l.own k ys hk).1)
  refine ⟨fun k => if k = i then p else ω k, by simpa using hlen, fun j d hj => ?_, fun j ys hj => ?_, fun j c ys hj => ?_, fun j j' ys zs hj hj' e => ?_⟩
  · by_cases q : i = j
    · subst q
      by_cases hi : i < δ.length
      · rw [List.getElem?_set_self hi] at hj; cases hj
      · rw [List.getElem?_eq_none (by simpa using hi)] at hj; cases hj
    · rw [List.getElem?_set_ne q] at hj ⊢; exact l.dat j d hj
  · by_cases q : i = j
    · subst q
      by_cases hi : i < δ.length
      · rw [List.getElem?_set_self hi] at hj
        cases hj
        rw [List.getElem?_set_self (by rw [← hlen]; exact hi)]
        simp only [if_true]
        exact ⟨trivial, ⟨vs, hp, r⟩, hF, hc, h0⟩
      · rw [List.getElem?_eq_none (by simpa using hi)] at hj; cases hj
    · have hj := old j _ q hj
      rw [List.getElem?_set_ne q]
      simp only [if_neg (Ne.symm q)]
      exact l.own j ys hj
  · by_cases q : i = j
    · subst q
      by_cases hi : i < δ.length
      · rw [List.getElem?_set_self hi] at hj; cases hj
      · rw [List.getElem?_eq_none (by simpa using hi)] at hj; cases hj
    · rw [List.getElem?_set_ne q] at hj ⊢; exact l.exo j c ys hj
  · by_cases q : i = j
    · by_cases q' : i = j'
      · exact q.symm.trans q'
      · have hj' := old j' _ q' hj'
        simp only [if_pos q.symm, if_neg (Ne.symm q')] at e
        exact absurd e.symm (ne j' zs hj')
    · have hj := old j _ q hj
      by_cases q' : i = j'
      · simp only [if_pos q'.symm, if_neg (Ne.symm q)] at e
        exact absurd e (ne j ys hj)
      · have hj' := old j' _ q' hj'
        simp only [if_neg (Ne.symm q), if_neg (Ne.symm q')] at e
        exact l.one j j' ys zs hj hj' e
/-- a list of one's own is frozen -/
theorem LocOk.frz (st : StOk K cm nm ρ F H s) (lo : LocOk K H0 ρ F H σ δ) {i : Nat} {xs : List D} (h : δ[i]? = some (some (.l xs))) : ∃ p vs, H0.h p = none ∧ F p = none ∧ StOk K cm nm ρ (upd F p (.lst vs)) H s ∧ LocOk K H0 ρ (upd F p (.lst vs)) H σ (δ.set i (some (.v (.lst xs)))) := by
  obtain ⟨ω, l⟩ := id lo
  obtain ⟨h1, ⟨vs, h2, h3⟩, h4, h5, h6⟩ := l.own i xs h
  have sm : Same F (upd F (ω i) (.lst vs)) := fun b u hb => by rw [upd_ne (ne_of_none hb h4)]; exact hb
  have hi : i < δ.length := (List.getElem?_eq_some_iff.mp h).1
  refine ⟨ω i, vs, h6, h4, st.freeze h2 h4 h5, ?_⟩
  have old : ∀ (k : Nat) (o : O), i ≠ k → (δ.set i (some (.v (.lst xs))))[k]? = some (some o) → δ[k]? = some (some o) := fun k o q hk => by rw [List.getElem?_set_ne q] at hk; exact hk
  have self : ∀ (o : O), (δ.set i (some (.v (.lst xs))))[i]? = some (some o) → o = .v (.lst xs) := fun o hk => by rw [List.getElem?_set_self hi] at hk; cases hk; rfl
  refine ⟨ω, by simpa using l.len, fun j d hj => ?_, fun j ys hj => ?_, fun j c ys hj => ?_, fun j j' ys zs hj hj' e => ?_⟩
  · by_cases q : i = j
    · subst q
      cases self _ hj
      exact ⟨_, h1, .lst (SqL.of upd_same) (h3.mono (List.prefix_refl _) sm)⟩
    · obtain ⟨v, a1, a2⟩ := l.dat j d (old j _ q hj)
      exact ⟨v, a1, a2.mono (List.prefix_refl _) sm⟩
  · by_cases q : i = j
    · subst q; cases self _ hj
    · have hj := old j _ q hj
      obtain ⟨a1, ⟨ws, a2, a3⟩, a4, a5, a6⟩ := l.own j ys hj
      have ne : ω j ≠ ω i := fun z => q (l.one j i ys xs hj h z).symm
      exact ⟨a1, ⟨ws, a2, a3.mono (List.prefix_refl _) sm⟩, by rw [upd_ne ne]; exact a4, a5, a6⟩
  · by_cases q : i = j
    · subst q; cases self _ hj
    · have hj := old j _ q hj
      obtain ⟨y, a1, a0, a2, a3, a4, a5⟩ := l.exo j c ys hj
      exact ⟨y, a1, a0, a2, a3, a4, a5.frz sm⟩
  · by_cases q : i = j
    · subst q; cases self _ hj
    · by_cases q' : i = j'
      · subst q'; cases self _ hj'
      · exact l.one j j' ys zs (old j _ q hj) (old j' _ q' hj') e

/-- a cell is changed -/
theorem StOk.cellSet {n : Nat} {a : Addr} {o : HO} {c : Cell} (st : StOk K cm nm ρ F H s) (ha : ρ[n]? = some a) (r : RepC K cm nm ρ F o c) : StOk K cm nm ρ F (upd H a o) ⟨s.c.set n c, s.w + 1⟩ where
  sub := fun b u h => by
    have hb : b ≠ a := fun e => by
      have := st.off a (List.mem_of_getElem? ha)
      rw [e, this] at h; cases h
    rw [upd_ne hb]; exact st.sub b u h
  len := by simpa using st.len
  cell := fun m b d h1 h2 => by
    by_cases q : n = m
    · subst q
      rw [ha] at h1; cases h1
      have hl : n < s.c.length := by rw [← st.len]; exact (List.getElem?_eq_some_iff.mp ha).1
      rw [List.getElem?_set_self hl] at h2
      cases h2
      exact ⟨o, upd_same, r⟩
    · rw [List.getElem?_set_ne q] at h2
      obtain ⟨u, h3, h4⟩ := st.cell m b d h1 h2
      have hb : b ≠ a := fun e => by
        subst e
        obtain ⟨l1, e1⟩ := List.getElem?_eq_some_iff.mp ha
        obtain ⟨l2, e2⟩ := List.getElem?_eq_some_iff.mp h1
        exact q ((List.getElem_inj st.nd).mp (e1.trans e2.symm))
      exact ⟨u, by rw [upd_ne hb]; exact h3, h4⟩
  off := st.off
  nd := st.nd
theorem Ext.cellSet {ρ0 : List Addr} {F0 Hb : Hp} {s0 : Sto} {a : Addr} {o : HO} {c : List Cell} (e : Ext ρ0 F0 Hb s0 ρ F H s) (ha : a ∈ ρ) : Ext ρ0 F0 Hb s0 ρ F (upd H a o) ⟨c, s.w + 1⟩ where
  pre := e.pre
  froz := e.froz
  wle := Nat.le_succ_of_le e.wle
  keep := fun b u h hn => by
    have hb : b ≠ a := fun q => by
      subst q
      rcases e.newC _ ha with z | z
      · exact hn z
      · rw [h] at z; cases z
    rw [upd_ne hb]; exact e.keep b u h hn
  still := fun w => by
    have h1 : s.w + 1 = s0.w := w
    have := e.wle
    omega
  there := fun b u h => by
    by_cases q : b = a
    · exact ⟨o, by rw [q]; exact upd_same⟩
    · rw [upd_ne q]; exact e.there b u h
  newF := e.newF
  newC := e.newC
theorem LocOk.cellSet {a : Addr} {o : HO} (lo : LocOk K H0 ρ F H σ δ) (ha : a ∈ ρ) : LocOk K H0 ρ F (upd H a o) σ δ := by
  obtain ⟨ω, l⟩ := lo
  refine ⟨ω, l.len, l.dat, fun j ys hj => ?_, fun j c ys hj => ?_, l.one⟩
  rotate_left
  · obtain ⟨y, a1, a0, a2, a3, a4, a5⟩ := l.exo j c ys hj
    refine ⟨y, a1, a0, a2, a3, a4, ?_⟩
    obtain ⟨yi, ya, yc, us, d, fs⟩ := y
    unfold XFld at a5 ⊢
    split at a5
    · exact a5
    · obtain ⟨h1, u, h2, h3⟩ := a5
      exact ⟨h1, u, by rw [upd_ne (fun z => h1 (by rw [z]; exact ha))]; exact h2, h3⟩
    · exact a5.elim
  obtain ⟨a1, ⟨ws, a2, a3⟩, a4, a5, a6⟩ := l.own j ys hj
  exact ⟨a1, ⟨ws, by rw [upd_ne (fun e => a5 (by rw [e]; exact ha))]; exact a2, a3⟩, a4, a5, a6⟩
end

/-! ### methods that change a list -/
def omName : OM → Str
  | .append => "append" | .clear => "clear" | .pop0 => "pop" | .popAt => "pop"
theorem RepL.eraseIdx {K : PySem.W.Frag} {ρ : List Addr} {F : Hp} : ∀ {vs : List V} {ds : List D} (n : Nat), RepL K ρ F vs ds → RepL K ρ F (vs.eraseIdx n) (ds.eraseIdx n)
  | _, _, _, .nil => .nil
  | _, _, 0, .cons _ l => l
  | _, _, n + 1, .cons h l => .cons h (RepL.eraseIdx n l)
theorem RepL.dropLast {K : PySem.W.Frag} {ρ : List Addr} {F : Hp} {vs : List V} {ds : List D} (l : RepL K ρ F vs ds) : RepL K ρ F vs.dropLast ds.dropLast := by
  rw [List.dropLast_eq_take, List.dropLast_eq_take, l.length]
  exact l.take _
theorem om_of {X : Cx} (m : OM) : ∃ id r, Slot "list" (omName m) id ∧ typeOf (.builtin id) = pure (.type "method_descriptor") ∧ MtR X id r ∧ ∀ (K : PySem.W.Frag) (ρ : List Addr) (F H : Hp) (p : Addr) (vs us : List V) (xs ds ys : List D) (z : D) (Q : VK),
    omD m xs ds = some (ys, z) → H p = some (.lst vs) → RepL K ρ F vs xs → RepL K ρ F us ds → (∀ vs' w, RepL K ρ F vs' ys → RepD K ρ F w z → Q w (upd H p (.lst vs'))) → r (.ref p) us H Q := by
  cases m with
  | append =>
    refine ⟨_, _, PySem.F.slot_list_append, PySem.F.type_list_append, mt_append, fun K ρ F H p vs us xs ds ys z Q h hp l lu q => ?_⟩
    cases lu with
    | nil => simp [omD] at h
    | cons r1 lu =>
      cases lu with
      | cons _ _ => simp [omD] at h
      | nil =>
        simp only [omD] at h
        split at h
        · rename_i hl
          cases h
          exact ⟨p, vs, _, rfl, rfl, hp, by rw [l.length, ← line_eq]; exact hl, q _ _ (l.append (.cons r1 .nil)) .non⟩
        · cases h
  | clear =>
    refine ⟨_, _, PySem.F.slot_list_clear, PySem.F.type_list_clear, mt_clear, fun K ρ F H p vs us xs ds ys z Q h hp l lu q => ?_⟩
    cases lu with
    | cons _ _ => simp [omD] at h
    | nil =>
      cases h
      exact ⟨p, vs, rfl, rfl, hp, q _ _ .nil .non⟩
  | pop0 =>
    refine ⟨_, _, PySem.F.slot_list_pop, PySem.F.type_list_pop, mt_pop, fun K ρ F H p vs us xs ds ys z Q h hp l lu q => ?_⟩
    cases lu with
    | cons _ _ => simp [omD] at h
    | nil =>
      simp only [omD, Option.map_eq_some_iff] at h
      obtain ⟨y, h1, h2⟩ := h
      cases h2
      obtain ⟨v, h3, h4⟩ := l.get h1
      exact ⟨p, vs, v, rfl, rfl, hp, by rw [l.length]; exact h3, q _ _ l.dropLast h4⟩
  | popAt =>
    refine ⟨_, _, PySem.F.slot_list_pop, PySem.F.type_list_pop, mt_popAt, fun K ρ F H p vs us xs ds ys z Q h hp l lu q => ?_⟩
    cases lu with
    | nil => simp [omD] at h
    | cons r1 lu =>
      cases lu with
      | cons _ _ => cases r1 <;> simp [omD] at h
      | nil =>
        cases r1 <;> simp only [omD] at h <;> try cases h
        rename_i i
        split at h
        · rename_i hs
          simp only [Option.bind_eq_some_iff, Option.map_eq_some_iff] at h
          obtain ⟨k, h1, y, h2, h3⟩ := h
          cases h3
          obtain ⟨v, h3, h4⟩ := l.get h2
          have hs1 := hs.1
          have hs2 := hs.2
          exact ⟨p, vs, i, k, v, rfl, rfl, hp, by omega, by omega, by rw [l.length]; exact h1, h3, q _ _ (l.eraseIdx k) h4⟩
        · cases h
end Mn
set_option Elab.async false
set_option linter.all false
set_option maxRecDepth 100000
set_option maxHeartbeats 4000000
/-! The small language is sound: statements, one by one. -/
namespace Mn
open PySem L2 PyProof.Rows

structure Bs where
  ρ : List Addr
  F : Hp
  s : Sto
/-- grown since the def's entry (B), and since M -/
structure EB (Z : Ev) (B M : Bs) (ρ : List Addr) (F H : Hp) (s : Sto) : Prop where
  ext : Ext B.ρ B.F Z.H0 B.s ρ F H s
  mp : M.ρ <+: ρ
  mf : Same M.F F
section
variable {Z : Ev} {B M : Bs} {ρ ρ' : List Addr} {F F' H H' : Hp} {s s' : Sto}
theorem EB.trans (e : EB Z B M ρ F H s) (x : Ext ρ F H s ρ' F' H' s') : EB Z B M ρ' F' H' s' := ⟨e.ext.trans x, e.mp.trans x.pre, e.mf.trans x.froz⟩
theorem EB.back (e : EB Z B M ρ F H s) : ∀ p, H p = none → Z.H0 p = none := e.ext.back
theorem EB.updNew {p : Addr} {o : HO} (e : EB Z B M ρ F H s) (h0 : Z.H0 p = none) : EB Z B M ρ F (upd H p o) s := ⟨e.ext.updNew h0, e.mp, e.mf⟩
theorem EB.cellSet {a : Addr} {o : HO} {c : List Cell} (e : EB Z B M ρ F H s) (ha : a ∈ ρ) : EB Z B M ρ F (upd H a o) ⟨c, s.w + 1⟩ := ⟨e.ext.cellSet ha, e.mp, e.mf⟩
theorem EB.freeze {p : Addr} {o : HO} (e : EB Z B M ρ F H s) (hF : F p = none) (h0 : Z.H0 p = none) : EB Z B M ρ (upd F p o) H s :=
  ⟨e.ext.freeze hF h0, e.mp, fun b u h => by
    have := e.mf b u h
    rw [upd_ne (ne_of_none this hF)]; exact this⟩
end
section
variable (K : PySem.W.Frag) (Z : Ev) (B M : Bs)
def PostS (r : Rs) (D : Ends) : Prop := match r with
  | .nx s δ => ∀ σ ρ F H, EB Z B M ρ F H s → StOk K Z.cm Z.nm ρ F H s → LocOk K Z.HX ρ F H σ δ → D.nx σ H
  | .bk s δ => ∀ σ ρ F H, EB Z B M ρ F H s → StOk K Z.cm Z.nm ρ F H s → LocOk K Z.HX ρ F H σ δ → D.bk σ H
  | .ct s δ => ∀ σ ρ F H, EB Z B M ρ F H s → StOk K Z.cm Z.nm ρ F H s → LocOk K Z.HX ρ F H σ δ → D.ct σ H
  | .ret o s => ∀ v ρ F H, EB Z B M ρ F H s → StOk K Z.cm Z.nm ρ F H s → RO K Z.H0 ρ F H v o → D.rt v H
  | .ex x s δ => ∀ σ ρ F H cls d, EB Z B M ρ F H s → StOk K Z.cm Z.nm ρ F H s → LocOk K Z.HX ρ F H σ δ → XRep K Z.xm Z.xf x ρ F H cls d → Z.W cls d σ H
  | .no => False
omit M in
def tSt (f : Sto → Lcs → Rs) : TS := fun D σ H => ∃ M δ s ρ F, EB Z B M ρ F H s ∧ StOk K Z.cm Z.nm ρ F H s ∧ LocOk K Z.HX ρ F H σ δ ∧ PostS K Z B M (f s δ) D
end
section
variable {X : Cx} {Z : Ev} {G : Gi} {k : Nat} {B M : Bs} {K : PySem.W.Frag}

theorem tSt.expr {α β : Type} {R : Rel α β} (an : Anti R) {f : Lcs → Sto → Re α} {h : Lcs → α → Sto → Rs} {D : Ends} {σ : L2.St} {H : Hp} {Q : β → Hp → Prop} (q : tSt K Z B (fun s δ => (f δ s).run (h δ)) D σ H)
    (k : ∀ M δ c s1 b ρ1 F1 H1, EB Z B M ρ1 F1 H1 s1 → StOk K Z.cm Z.nm ρ1 F1 H1 s1 → LocOk K Z.HX ρ1 F1 H1 σ δ → R Z.H0 ρ1 F1 H1 b c → PostS K Z B M (h δ c s1) D → Q b H1) : tR K Z R f σ H Q := by
  obtain ⟨M, δ, s, ρ, F, e, st, lo, po⟩ := q
  refine ⟨δ, s, ρ, F, st, lo, ?_⟩
  dsimp only at po
  cases hr : f δ s with
  | no => rw [hr] at po; exact po.elim
  | ex x s1 => rw [hr] at po; exact po.elim
  | ok a s1 =>
    rw [hr] at po
    exact fun b ρ' F' H' e' st' rr => k M δ a s1 b ρ' F' H' (e.trans e') st' (lo.ext e') (an _ _ _ _ _ _ _ e.back rr) po
/-- the same within a statement: from a state at hand -/
theorem PostS.expr {α β : Type} {R : Rel α β} (an : Anti R) {r : Re α} {h : α → Sto → Rs} {D : Ends} {σ : L2.St} {δ : Lcs} {s : Sto} {ρ : List Addr} {F H : Hp} {Q : β → Hp → Prop} (e : EB Z B M ρ F H s) (lo : LocOk K Z.HX ρ F H σ δ) (po : PostS K Z B M (r.run h) D)
    (k : ∀ c s1 b ρ1 F1 H1, Ext ρ F H s ρ1 F1 H1 s1 → EB Z B M ρ1 F1 H1 s1 → StOk K Z.cm Z.nm ρ1 F1 H1 s1 → LocOk K Z.HX ρ1 F1 H1 σ δ → R Z.H0 ρ1 F1 H1 b c → PostS K Z B M (h c s1) D → Q b H1) : Post K Z.cm Z.nm R r ρ F H s Q := by
  cases r with
  | no => exact po.elim
  | ex x s1 => exact po.elim
  | ok a s1 => exact fun b ρ' F' H' e' st' rr => k a s1 b ρ' F' H' e' (e.trans e') st' (lo.ext e') (an _ _ _ _ _ _ _ e.back rr) po

variable (g : GdH X Z G) (N : Nat)
abbrev tS (K : PySem.W.Frag) (Z : Ev) (B : Bs) (N : Nat) (m : MS) : TS := tSt K Z B (exec Z.cf N m)
abbrev tSs (K : PySem.W.Frag) (Z : Ev) (B : Bs) (N : Nat) (m : MSs) : TS := tSt K Z B (execs Z.cf N m)
include g

theorem ss_asg {i : Nat} {m : ME} {x : Str} {e : Expr} {p p' : Pos} (hN : X.N[i]? = some x) (hl : Loc X.env.scope x) (hf : X.fn x = true ∨ X.env.scope.names.lookup x = some .local) (hc : notComp e = true) (h : PE X e (tE X.K Z m)) :
    PS X (.Assign [.Name x p'] e p) (tS X.K Z B N (.asg i m)) := (ps_set g.nd hN hl h (swaps_ hc _ _ _) hf).conseq fun D σ H q => by
  simp only [tS, exec] at q
  exact tSt.expr anti_RD q fun M δ d s1 v ρ1 F1 H1 e1 st1 lo1 r1 po => po _ ρ1 F1 H1 e1 st1 (lo1.put i r1)
omit g in
/-- what a fresh result does to a slot -/
theorem own_step {i : Nat} {o : O} {v : V} {s1 : Sto} {δ : Lcs} {σ : L2.St} {ρ1 ρ0 : List Addr} {F1 H1 F0 Hs : Hp} {s0 : Sto} {D : Ends} (e1 : EB Z B M ρ1 F1 H1 s1) (st1 : StOk K Z.cm Z.nm ρ1 F1 H1 s1) (lo0 : LocOk K Z.HX ρ0 F0 Hs σ δ) (ee : Ext ρ0 F0 Hs s0 ρ1 F1 H1 s1)
    (r1 : RO K Hs ρ1 F1 H1 v o) (h0 : ∀ p, Hs p = none → Z.H0 p = none) (po : PostS K Z B M (.nx s1 (δ.set i (some o))) D) : D.nx (σ.set i (some v)) H1 := by
  have lo1 := lo0.ext ee
  cases o with
  | v d => exact po _ ρ1 F1 H1 e1 st1 (lo1.put i r1)
  | x c vs => exact r1.elim
  | l xs =>
    obtain ⟨p, vs, rfl, h1, h2, h3, h4, h5⟩ := r1
    refine po _ ρ1 F1 H1 e1 st1 (lo1.putOwn i h1 h2 h3 h4 (h0 p h5) fun j ys hj hz => ?_)
    obtain ⟨ω, l⟩ := lo0
    obtain ⟨a1, ⟨ws, a2, a3⟩, _⟩ := l.own j ys hj
    rw [a1] at hz
    cases hz
    rw [h5] at a2; cases a2
theorem ss_asgO {i : Nat} {m : MF} {x : Str} {e : Expr} {p p' : Pos} (hN : X.N[i]? = some x) (h : PS X (.Assign [.Name x p'] e p) (tAsg (tF X.K Z m) (gName i))) : PS X (.Assign [.Name x p'] e p) (tS X.K Z B N (.asgO i m)) := h.conseq fun D σ H q => by
  obtain ⟨M, δ, s, ρ, F, e, st, lo, po⟩ := q
  simp only [exec] at po
  refine ⟨δ, s, ρ, F, st, lo, ?_⟩
  cases hr : evalF Z.cf m δ s with
  | no => rw [hr] at po; exact po.elim
  | ex x s1 => rw [hr] at po; exact po.elim
  | ok o s1 =>
    rw [hr] at po
    exact fun v ρ' F' H' e' st' rr => own_step (e.trans e') st' lo e' rr e.back po
theorem ss_asgC {i : Nat} {m : MF} {x : Str} {e : Expr} {p p' : Pos} (hN : X.N[i]? = some x) (h : PS X (.Assign [.Name x p'] e p) (tAsg (tF X.K Z m) (gName i))) : PS X (.Assign [.Name x p'] e p) (tS X.K Z B N (.asgC i m)) := h.conseq fun D σ H q => by
  obtain ⟨M, δ, s, ρ, F, e, st, lo, po⟩ := q
  simp only [exec] at po
  refine ⟨δ, s, ρ, F, st, lo, ?_⟩
  cases hr : evalF Z.cf m δ s with
  | no => rw [hr] at po; exact po.elim
  | ex x s1 => rw [hr] at po; exact po.elim
  | ok o s1 =>
    rw [hr] at po
    intro v ρ1 F1 H1 e1 st1 r1
    cases o with
    | v d => exact po.elim
    | x c vs => exact po.elim
    | l xs =>
      obtain ⟨p, vs, rfl, h1, h2, h3, h4, h5⟩ := r1
      have st2 := st1.cell_new h1 h3 h4 (.L h2)
      have e2 := e1.cell_new (s1.c ++ [.L xs]) h5
      have lo2 : LocOk X.K Z.HX (ρ1 ++ [p]) F1 H1 σ δ := lo.ext e2
      exact po _ _ F1 H1 (e.trans e2) st2 (lo2.put i (.ref (by rw [← st1.len]; simp)))

omit g in
theorem swS_ {e : Expr} (h : notComp e = true) (t : Expr) (l : Nat) (env : Env) : swapsWithSole [t] e l env = pure false := swaps_ h (some t) l env
def notTup : Expr → Bool | .Tuple _ _ _ => false | _ => true
omit g in
theorem stores_ {e : Expr} (h : notTup e = true) (t : Expr) (env : Env) : swappedStores [t] e env = pure none := by
  cases e <;> first | (cases h; done) | (cases t <;> rfl)
omit g in
theorem stores_sub {x y e : Expr} {p : Pos} (env : Env) : swappedStores [.Subscript x y p] e env = pure none := by
  cases e <;> rfl
theorem ss_asgT {is : List Nat} {m : ME} {t e : Expr} {p : Pos} (hc : notComp e = true) (ht : notTup e = true) (hg : PG X t (gTm X.K (.tup is))) (h : PE X e (tE X.K Z m)) (h1 : (assignEach [t] X.env).map (·.2) = [assign t X.env]) :
    PS X (.Assign [t] e p) (tS X.K Z B N (.asgT is m)) := (ps_asg h hg (swS_ hc _ _ _) (stores_ ht _ _) h1).conseq fun D σ H q => by
  simp only [tS, exec] at q
  refine tSt.expr anti_RD q fun M δ d s1 v ρ1 F1 H1 e1 st1 lo1 r1 po => ?_
  cases d <;> try exact po.elim
  rename_i xs
  dsimp only at po
  split at po
  · rename_i δ1 hb
    exact gT_ok (own := is) (t := .tup is) st1 lo1 r1 hb (fun _ h => h) fun σ2 l2 _ => po _ ρ1 F1 H1 e1 st1 l2
  · exact po.elim

/-! ### x op= e -/
omit g in
theorem PIp_of {op : Operator} {r : R2} (h : OpR X (inplaceOp op) r) : PIp X op r := fun pins s σ H x y v u Q I rx ry q => h pins s σ H x y v u Q I rx ry q
omit g in
theorem ip_of (o : MB) : ∃ r, PIp X (opB o) r ∧ ∀ (K : PySem.W.Frag) (ρ : List Addr) (F : Hp) (d e z : D) (x y : V) (H : Hp) (Q : VK), augD o d e = some z → RepD K ρ F x d → RepD K ρ F y e →
    (∀ v, (∀ K ρ F, RepD K ρ F v z) → Q v H) → r x y H Q := by
  cases o with
  | add =>
    refine ⟨_, PIp_of iop_add, fun K ρ F d e z x y H Q h rx ry q => ?_⟩
    cases d <;> cases e <;> simp only [augD] at h <;> try cases h
    cases rx; cases ry
    exact ⟨_, _, rfl, rfl, q _ fun _ _ _ => .int _⟩
  | sub =>
    refine ⟨_, PIp_of iop_sub, fun K ρ F d e z x y H Q h rx ry q => ?_⟩
    cases d <;> cases e <;> simp only [augD] at h <;> try cases h
    cases rx; cases ry
    exact ⟨_, _, rfl, rfl, q _ fun _ _ _ => .int _⟩
  | _ =>
    refine ⟨fun _ _ _ _ => False, fun pins s σ H x y v u Q I rx ry q => q.elim, fun K ρ F d e z x y H Q h rx ry q => ?_⟩
    cases d <;> cases e <;> cases h
theorem ss_aug {i : Nat} {o : MB} {m : ME} {x : Str} {e : Expr} {p p' : Pos} (hN : X.N[i]? = some x) (hl : Loc X.env.scope x) (hf : X.fn x = true ∨ X.env.scope.names.lookup x = some .local) (h : PE X e (tE X.K Z m)) :
    PS X (.AugAssign (.Name x p') (opB o) e p) (tS X.K Z B N (.aug i o m)) := by
  obtain ⟨r, hr, hq⟩ := ip_of (X := X) o
  refine (ps_aug g.nd hN hl h hr hf).conseq fun D σ H q => ?_
  obtain ⟨M, δ, s, ρ, F, e0, st, lo, po⟩ := q
  simp only [exec] at po
  split at po
  · rename_i d hd
    obtain ⟨ω, l⟩ := id lo
    obtain ⟨v, a1, a2⟩ := l.dat i d hd
    refine ⟨v, a1, δ, s, ρ, F, st, lo, PostS.expr anti_RD e0 lo po fun y s1 w ρ1 F1 H1 e' e1 st1 lo1 r1 po1 => ?_⟩
    split at po1
    · rename_i z hz
      exact hq X.K ρ1 F1 d y z v w H1 _ hz (a2.mono e'.pre e'.froz) r1 fun v' rr => po1 _ ρ1 F1 H1 e1 st1 (lo1.put i (rr _ _ _))
    · exact po1.elim
  · exact po.elim

/-! ### o[k] = e -/
omit g in
theorem sub_assign {o i : Expr} {p : Pos} (h : plainIx i = true) : ∀ v, assign (.Subscript o i p) X.env v = (do
      let ov ← holding [v] (eval o X.env)
      let iv ← holding [v, ov] (eval i X.env)
      standAt p
      holding [v, ov, iv] (setItem ov iv v)
      release [v, ov, iv] []) := fun v => by cases i <;> first | rfl | cases h
omit g in
theorem setAt_ {K : PySem.W.Frag} {ρ : List Addr} {F : Hp} {vs : List V} {xs ys : List D} {y d : D} {iv v : V} (l : RepL K ρ F vs xs) (ri : RepD K ρ F iv y) (r : RepD K ρ F v d) (h : setAt xs y d = some ys) :
    ∃ i j, iv = .int i ∧ ixN vs.length i = some j ∧ RepL K ρ F (vs.set j v) ys := by
  cases y <;> simp only [setAt] at h <;> try cases h
  rename_i i
  rw [Option.map_eq_some_iff] at h
  obtain ⟨j, h1, rfl⟩ := h
  cases ri
  exact ⟨i, j, rfl, by rw [l.length]; exact h1, l.set r j⟩
theorem ss_setC {o k e : ME} {x y z : Expr} {p p' : Pos} (hix : plainIx y = true) (hc : notComp z = true) (ho : PE X x (tE X.K Z o)) (hk : PE X y (tE X.K Z k)) (he : PE X z (tE X.K Z e)) :
    PS X (.Assign [.Subscript x y p'] z p) (tS X.K Z B N (.setC o k e)) := (ps_asg he (pg_sub ho hk set_list (sub_assign hix)) (swS_ hc _ _ _) (stores_sub _) rfl).conseq fun D σ H q => by
  simp only [tS, exec] at q
  refine tSt.expr anti_RD q fun M δ d s1 v ρ1 F1 H1 e1 st1 lo1 r1 po1 => ?_
  refine ⟨δ, s1, ρ1, F1, st1, lo1, PostS.expr anti_RD e1 lo1 po1 fun d2 s2 v2 ρ2 F2 H2 e2' e2 st2 lo2 r2 po2 => ?_⟩
  refine ⟨δ, s2, ρ2, F2, st2, lo2, PostS.expr anti_RD e2 lo2 po2 fun d3 s3 v3 ρ3 F3 H3 e3' e3 st3 lo3 r3 po3 => ?_⟩
  cases d2 <;> try exact po3.elim
  rename_i n
  dsimp only at po3
  split at po3
  · rename_i xs hxs
    split at po3
    · rename_i ys hys
      cases r2 with
      | ref en =>
        have en3 := (RepD.mono e3'.pre e3'.froz (K := X.K) (F := F2) (.ref en))
        cases en3 with
        | ref en3 =>
          obtain ⟨vs, h1, l⟩ := st3.lst en3 hxs
          obtain ⟨i, j, rfl, h2, l2⟩ := setAt_ l r3 ((RepD.mono e2'.pre e2'.froz r1).mono e3'.pre e3'.froz) hys
          have hmem := List.mem_of_getElem? en3
          exact ⟨_, vs, i, j, rfl, rfl, h1, h2, po3 _ ρ3 F3 _ (e3.cellSet hmem) (st3.cellSet en3 (.L l2)) (lo3.cellSet hmem)⟩
    · exact po3.elim
  · exact po3.elim
theorem ss_setO {i : Nat} {k e : ME} {nx : Str} {y z : Expr} {pn p p' : Pos} (hN : X.N[i]? = some nx) (hv : Vis X.env.scope nx) (hd1 : (nx == ("__debug__" : Str)) = false) (hd2 : (nx == ("__classdict__" : Str)) = false) (hix : plainIx y = true) (hc : notComp z = true) (hk : PE X y (tE X.K Z k)) (he : PE X z (tE X.K Z e)) :
    PS X (.Assign [.Subscript (.Name nx pn) y p'] z p) (tS X.K Z B N (.setO i k e)) := (ps_asg he (pg_sub (pe_var hN hv hd1 hd2) hk set_list (sub_assign hix)) (swS_ hc _ _ _) (stores_sub _) rfl).conseq fun D σ H q => by
  simp only [tS, exec] at q
  refine tSt.expr anti_RD q fun M δ d s1 v ρ1 F1 H1 e1 st1 lo1 r1 po1 => ?_
  have hsl : ∃ xs, δ[i]? = some (some (.l xs)) := by
    cases hr : evalE Z.cf k δ s1 with
    | no => rw [hr] at po1; exact po1.elim
    | ex a b => rw [hr] at po1; exact po1.elim
    | ok y2 s2 =>
      rw [hr] at po1
      simp only [Re.run] at po1
      split at po1
      · rename_i xs hxs; exact ⟨xs, hxs⟩
      · exact po1.elim
  obtain ⟨xs, hxs⟩ := hsl
  obtain ⟨p0, vs0, hσ, _⟩ := lo1.grow st1 hxs
  refine ⟨_, hσ, δ, s1, ρ1, F1, st1, lo1, PostS.expr anti_RD e1 lo1 po1 fun d3 s3 v3 ρ3 F3 H3 e3' e3 st3 lo3 r3 po3 => ?_⟩
  rw [hxs] at po3
  dsimp only at po3
  split at po3
  · rename_i ys hys
    obtain ⟨q1, vs, hσ', h1, l, h0, hF, hcn, kk⟩ := lo3.grow st3 hxs
    rw [hσ] at hσ'
    cases hσ'
    obtain ⟨i', j, rfl, h2, l2⟩ := setAt_ l r3 (r1.mono e3'.pre e3'.froz) hys
    obtain ⟨lo4, st4⟩ := kk _ _ l2
    exact ⟨_, vs, i', j, rfl, rfl, h1, h2, po3 _ ρ3 F3 _ (e3.updNew h0) st4 lo4⟩
  · exact po3.elim
end
end Mn
set_option Elab.async false
set_option linter.all false
set_option maxRecDepth 100000
set_option maxHeartbeats 4000000
/-! The small language is sound: statements, further. -/
namespace Mn
open PySem L2 PyProof.Rows
section
variable {X : Cx}
theorem get_list : PGet X (rIxL X.K) := by
  intro pins s σ H x y v u Q I rx ry h
  obtain ⟨p, xs, i, z, rfl, rfl, hq, he, q⟩ := h
  cases rx
  obtain ⟨t, rfl⟩ := ry
  obtain ⟨its, r, pl, hz⟩ := I.list hq
  obtain ⟨j, h1, h2, h3, h4, h5⟩ := atI_get he
  obtain ⟨w, ew, rw'⟩ := r.get h2
  have hl := r.length
  have hn := line63
  have fin : EP X pins σ Q w s := ⟨z, H, I, rw', q⟩
  by_cases h0 : 0 ≤ i
  · have hj : i.toNat = j := by
      rw [seqIndex_of h0 h5] at h1
      exact Option.some.inj h1
    exact wpAny_getItem_list pl.isList h0 (by omega) (by rw [hj]; simpa using ew) fin
  · have hj : (i + (its.toArray.size : Int)).toNat = j := by
      rw [seqIndex_neg (by omega) h4] at h1
      rw [List.size_toArray, ← hl]
      exact Option.some.inj h1
    exact wpAny_getItem_list_neg pl.isList (by omega) (by rw [List.size_toArray] <;> omega) (by omega) (by rw [hj]; simpa using ew) fin
theorem aug_store {i : Expr} (h : plainIx i = true) : ∀ ov iv new, augStore i ov iv new = (do holding [new, ov, iv] (setItem ov iv new); release [new, ov, iv] []; pure .next) := fun ov iv new => by
  cases i <;> first | rfl | cases h
/-- what stands ahead of a method's name -/
def plainBase : Expr → Bool | .Call (.Name _ _) [] [] _ => false | _ => true
theorem base_ {o : Expr} (h : plainBase o = true) (n : Str) (env : Env) (w : Sem Value) : attributeBase o n env w = w := by
  unfold attributeBase
  split
  · cases h
  · rfl
end
section
variable {X : Cx} {Z : Ev} {G : Gi} {k : Nat} {B M : Bs} {K : PySem.W.Frag} (g : GdH X Z G) (N : Nat)
include g
theorem ss_augO {i : Nat} {k' e : ME} {q : MB} {nx : Str} {y z : Expr} {pn p p' : Pos} (hN : X.N[i]? = some nx) (hv : Vis X.env.scope nx) (hd1 : (nx == ("__debug__" : Str)) = false) (hd2 : (nx == ("__classdict__" : Str)) = false) (hix : plainIx y = true) (hk : PE X y (tE X.K Z k')) (he : PE X z (tE X.K Z e)) :
    PS X (.AugAssign (.Subscript (.Name nx pn) y p') (opB q) z p) (tS X.K Z B N (.augO i k' q e)) := by
  obtain ⟨r, hr, hq⟩ := ip_of (X := X) q
  refine (ps_augS (pe_var hN hv hd1 hd2) hk get_list he hr set_list (aug_store hix)).conseq fun D σ H qq => ?_
  simp only [tS, exec] at qq
  obtain ⟨M, δ, s, ρ, F, e0, st, lo, po⟩ := qq
  dsimp only at po
  have hsl : ∃ xs, δ[i]? = some (some (.l xs)) := by
    cases hr' : evalE Z.cf k' δ s with
    | no => rw [hr'] at po; exact po.elim
    | ex a b => rw [hr'] at po; exact po.elim
    | ok y2 s2 =>
      rw [hr'] at po
      simp only [Re.run] at po
      split at po
      · rename_i xs hxs; exact ⟨xs, hxs⟩
      · exact po.elim
  obtain ⟨xs, hxs⟩ := hsl
  obtain ⟨p0, vs0, hσ, _⟩ := lo.grow st hxs
  refine ⟨_, hσ, δ, s, ρ, F, st, lo, PostS.expr anti_RD e0 lo po fun d2 s2 v2 ρ2 F2 H2 e2' e2 st2 lo2 r2 po2 => ?_⟩
  rw [hxs] at po2
  dsimp only at po2
  split at po2
  · rename_i w hw
    unfold idxD at hw
    split at hw
    · rename_i i'
      cases r2
      have hw : atI xs i' = some w := hw
      obtain ⟨p1, vs1, hσ1, h1, l1, h0, hF, hcn, kk⟩ := lo2.grow st2 hxs
      rw [hσ] at hσ1
      cases hσ1
      obtain ⟨v3, h3, h4⟩ := l1.atI hw
      refine ⟨_, vs1, i', v3, rfl, rfl, SqL.of h1, h3, ?_⟩
      refine ⟨δ, s2, ρ2, F2, st2, lo2, PostS.expr anti_RD e2 lo2 po2 fun d4 s4 v4 ρ4 F4 H4 e4' e4 st4 lo4 r4 po4 => ?_⟩
      split at po4
      · rename_i z2 hz2
        refine hq X.K ρ4 F4 w d4 z2 v3 v4 H4 _ hz2 (h4.mono e4'.pre e4'.froz) r4 fun v5 rr => ?_
        split at po4
        · rename_i ys hys
          obtain ⟨p2, vs2, hσ2, h5, l2, h02, hF2, hcn2, kk2⟩ := lo4.grow st4 hxs
          rw [hσ] at hσ2
          cases hσ2
          obtain ⟨i'', j, hi', h6, l3⟩ := setAt_ l2 (.int i') (rr _ _ _) hys
          cases hi'
          obtain ⟨lo5, st5⟩ := kk2 _ _ l3
          exact ⟨_, vs2, i', j, rfl, rfl, h5, h6, po4 _ ρ4 F4 _ (e4.updNew h02) st5 lo5⟩
        · exact po4.elim
      · exact po4.elim
    · cases hw
  · exact po2.elim
theorem ss_augC {o k e : ME} {q : MB} {x y z : Expr} {p p' : Pos} (hix : plainIx y = true) (ho : PE X x (tE X.K Z o)) (hk : PE X y (tE X.K Z k)) (he : PE X z (tE X.K Z e)) :
    PS X (.AugAssign (.Subscript x y p') (opB q) z p) (tS X.K Z B N (.augC o k q e)) := by
  obtain ⟨r, hr, hq⟩ := ip_of (X := X) q
  refine (ps_augS ho hk get_list he hr set_list (aug_store hix)).conseq fun D σ H q => ?_
  simp only [tS, exec] at q
  refine tSt.expr anti_RD q fun M δ d s1 v ρ1 F1 H1 e1 st1 lo1 r1 po1 => ?_
  refine ⟨δ, s1, ρ1, F1, st1, lo1, PostS.expr anti_RD e1 lo1 po1 fun d2 s2 v2 ρ2 F2 H2 e2' e2 st2 lo2 r2 po2 => ?_⟩
  split at po2
  · rename_i w hw
    cases d with
    | ref n =>
      -- the item as it stands
      have r1' := RepD.mono e2'.pre e2'.froz r1
      cases r1' with
      | ref en =>
        unfold idxD at hw
        split at hw
        · rename_i i
          cases r2
          simp only [seqD, Option.bind_eq_some_iff] at hw
          obtain ⟨xs0, hx0, hw⟩ := hw
          split at hx0
          · rename_i xs1 hxs1
            cases hx0
            obtain ⟨vs1, h1, l1⟩ := st2.lst en hxs1
            obtain ⟨v3, h3, h4⟩ := l1.atI hw
            refine ⟨_, vs1, i, v3, rfl, rfl, SqL.of h1, h3, ?_⟩
            refine ⟨δ, s2, ρ2, F2, st2, lo2, PostS.expr anti_RD e2 lo2 po2 fun d4 s4 v4 ρ4 F4 H4 e4' e4 st4 lo4 r4 po4 => ?_⟩
            split at po4
            · rename_i z2 hz2
              refine hq X.K ρ4 F4 w d4 z2 v3 v4 H4 _ hz2 (h4.mono e4'.pre e4'.froz) r4 fun v5 rr => ?_
              dsimp only at po4
              split at po4
              · rename_i xs hxs
                split at po4
                · rename_i ys hys
                  have en4 := (RepD.mono e4'.pre e4'.froz (K := X.K) (F := F2) (.ref en))
                  cases en4 with
                  | ref en4 =>
                    obtain ⟨vs, h5, l⟩ := st4.lst en4 hxs
                    obtain ⟨i', j, hi', h6, l2⟩ := setAt_ l (.int i) (rr _ _ _) hys
                    cases hi'
                    have hmem := List.mem_of_getElem? en4
                    exact ⟨_, vs, i, j, rfl, rfl, h5, h6, po4 _ ρ4 F4 _ (e4.cellSet hmem) (st4.cellSet en4 (.L l2)) (lo4.cellSet hmem)⟩
                · exact po4.elim
              · exact po4.elim
            · exact po4.elim
          · cases hx0
        · cases hw
    | _ =>
      exfalso
      cases hr : evalE Z.cf e δ s2 with
      | no => rw [hr] at po2; exact po2.elim
      | ex a b => rw [hr] at po2; exact po2.elim
      | ok d4 s4 =>
        rw [hr] at po2
        simp only [Re.run] at po2
        split at po2 <;> exact po2.elim
  · exact po2.elim

/-! ### x.append(e) .. -/
omit g in
theorem stars_all : ∀ {es : List Expr} (p : Pos) (env : Env), es.all notStar = true → (backTo p (starEach es env)).all (fun x => !x.1) = true
  | [], _, _, _ => rfl
  | e :: es, p, env, h => by
    have h1 : notStar e = true ∧ es.all notStar = true := by simpa using h
    rw [starEach_ h1.1]
    show (true && (backTo p (starEach es env)).all (fun x => !x.1)) = true
    rw [stars_all p env h1.2]
    rfl
theorem meth_PE {m : OM} {o : Expr} {es : List Expr} {ms : MEs} {to : TE} {pa p : Pos} (hb : plainBase o = true) (hline : (pa.endLine == p.line) = true) (hfew : es.length < 20) (ho : PE X o to)
    (mono : ∀ σ H (Q Q' : VK), (∀ v H, Q v H → Q' v H) → to σ H Q → to σ H Q') (hs : es.all notStar = true) (h : PA X es (tEs X.K Z ms)) (hms : es = [] → ms = .nil) :
    ∃ r : V → List V → Hp → VK → Prop, PE X (.Call (.Attribute o (omName m) pa) es [] p) (fun σ H Q => to σ H fun x H1 => tyV X.K "list" x H1 ∧ tEs X.K Z ms σ H1 fun xs H2 => r x xs H2 Q) ∧ ∀ (K : PySem.W.Frag) (ρ : List Addr) (F H : Hp) (p : Addr) (vs us : List V) (xs ds ys : List D) (z : D) (Q : VK),
    omD m xs ds = some (ys, z) → H p = some (.lst vs) → RepL K ρ F vs xs → RepL K ρ F us ds → (∀ vs' w, RepL K ρ F vs' ys → RepD K ρ F w z → Q w (upd H p (.lst vs'))) → r (.ref p) us H Q := by
  obtain ⟨id, r, hslot, hty, hm, hq⟩ := om_of (X := X) m
  refine ⟨r, ?_, hq⟩
  cases es with
  | nil =>
    have := hms rfl
    subst this
    refine (pe_bm0 PySem.F.plainAttrs_list hslot hty hm ho (base_ hb _ _ _) hline).conseq fun σ H Q q => ?_
    refine mono σ H _ _ (fun v H1 q1 => ⟨q1.1, ?_⟩) q
    obtain ⟨δ, s, ρ, F, st, lo, po⟩ := q1.2
    simp only [evalEs] at po
    exact po.now st .nil
  | cons e es =>
    have h1 : notStar e = true ∧ es.all notStar = true := by simpa using hs
    refine (pe_bm PySem.F.plainAttrs_list hslot hty hm ho h (base_ hb _ _ _) ?_ hline (starEach_ h1.1 _ _) (nostars _ _ h1.2))
    rw [stars_all _ _ hs, decide_eq_true (by
      have : (e :: es).length < 20 := hfew
      show (e :: es).length + 0 + 0 < 30
      omega)]
    rfl
omit g in
theorem mono_var (i : Nat) : ∀ σ H (Q Q' : VK), (∀ v H, Q v H → Q' v H) → tVar i σ H Q → tVar i σ H Q' := fun σ H Q Q' h q => by
  obtain ⟨v, a, b⟩ := q
  exact ⟨v, a, h _ _ b⟩
omit g in
theorem mono_tR {α β : Type} {R : Rel α β} {f : Lcs → Sto → Re α} : ∀ σ H (Q Q' : β → Hp → Prop), (∀ v H, Q v H → Q' v H) → tR K Z R f σ H Q → tR K Z R f σ H Q' := fun σ H Q Q' h q => by
  obtain ⟨δ, s, ρ, F, st, lo, po⟩ := q
  refine ⟨δ, s, ρ, F, st, lo, ?_⟩
  cases hr : f δ s with
  | no => rw [hr] at po; exact po
  | ex x s1 => rw [hr] at po; exact po
  | ok a s1 => rw [hr] at po; exact fun b ρ' F' H' e st' r => h _ _ (po b ρ' F' H' e st' r)
theorem ss_mtO {m : OM} {i : Nat} {nx : Str} {es : List Expr} {ms : MEs} {pn pa p ps : Pos} (hN : X.N[i]? = some nx) (hv : Vis X.env.scope nx) (hd1 : (nx == ("__debug__" : Str)) = false) (hd2 : (nx == ("__classdict__" : Str)) = false)
    (hline : (pa.endLine == p.line) = true) (hfew : es.length < 20) (hs : es.all notStar = true) (h : PA X es (tEs X.K Z ms)) (hms : es = [] → ms = .nil) :
    PS X (.Expr (.Call (.Attribute (.Name nx pn) (omName m) pa) es [] p) ps) (tS X.K Z B N (.mtO m i ms)) := by
  obtain ⟨r, hr, hq⟩ := meth_PE g (m := m) (o := .Name nx pn) (pa := pa) (p := p) rfl hline hfew (pe_var hN hv hd1 hd2) (mono_var i) hs h hms
  refine (ps_expr hr (swaps_ rfl _ _ _)).conseq fun D σ H q => ?_
  obtain ⟨M, δ, s, ρ, F, e0, st, lo, po⟩ := q
  simp only [exec] at po
  have hsl : ∃ xs, δ[i]? = some (some (.l xs)) := by
    cases hr : evalEs Z.cf ms δ s with
    | no => rw [hr] at po; exact po.elim
    | ex a b => rw [hr] at po; exact po.elim
    | ok y2 s2 =>
      rw [hr] at po
      simp only [Re.run] at po
      split at po
      · rename_i xs hxs; exact ⟨xs, hxs⟩
      · exact po.elim
  obtain ⟨xs, hxs⟩ := hsl
  obtain ⟨p0, vs0, hσ, hp0, _⟩ := lo.grow st hxs
  refine ⟨_, hσ, .inl ⟨rfl, _, SqL.of hp0⟩, δ, s, ρ, F, st, lo, PostS.expr anti_RL e0 lo po fun ds s1 us ρ1 F1 H1 e1' e1 st1 lo1 r1 po1 => ?_⟩
  rw [hxs] at po1
  dsimp only at po1
  split at po1
  · rename_i ys z hys
    obtain ⟨q1, vs, hσ', h1, l, h0, hF, hcn, kk⟩ := lo1.grow st1 hxs
    rw [hσ] at hσ'
    cases hσ'
    refine hq X.K ρ1 F1 H1 p0 vs us xs ds ys z _ hys h1 l r1 fun vs' w l' rw' => ?_
    obtain ⟨lo4, st4⟩ := kk _ _ l'
    exact po1 _ ρ1 F1 _ (e1.updNew h0) st4 lo4
  · exact po1.elim
theorem ss_mtC {m : OM} {o : ME} {x : Expr} {es : List Expr} {ms : MEs} {pa p ps : Pos} (hb : plainBase x = true) (hline : (pa.endLine == p.line) = true) (hfew : es.length < 20) (ho : PE X x (tE X.K Z o)) (hs : es.all notStar = true) (h : PA X es (tEs X.K Z ms)) (hms : es = [] → ms = .nil) :
    PS X (.Expr (.Call (.Attribute x (omName m) pa) es [] p) ps) (tS X.K Z B N (.mtC m o ms)) := by
  obtain ⟨r, hr, hq⟩ := meth_PE g (m := m) (o := x) (pa := pa) (p := p) hb hline hfew ho mono_tR hs h hms
  refine (ps_expr hr (swaps_ rfl _ _ _)).conseq fun D σ H q => ?_
  simp only [tS, exec] at q
  refine tSt.expr anti_RD q fun M δ d s1 v ρ1 F1 H1 e1 st1 lo1 r1 po1 => ?_
  cases d <;> try exact po1.elim
  rename_i n
  dsimp only at po1
  split at po1
  case h_2 => exact po1.elim
  rename_i xs0 hx0
  have r1 : RepD X.K ρ1 F1 v (.ref n) := r1
  cases r1 with
  | ref en =>
    obtain ⟨vs0, hp0, _⟩ := st1.lst en hx0
    refine ⟨.inl ⟨rfl, _, SqL.of hp0⟩, δ, s1, ρ1, F1, st1, lo1, PostS.expr anti_RL e1 lo1 po1 fun ds s2 us ρ2 F2 H2 e2' e2 st2 lo2 r2 po2 => ?_⟩
    split at po2
    · rename_i xs hxs
      split at po2
      · rename_i ys z hys
        have en2 := (RepD.mono e2'.pre e2'.froz (K := X.K) (F := F1) (.ref en))
        cases en2 with
        | ref en2 =>
          obtain ⟨vs, h1, l⟩ := st2.lst en2 hxs
          have hmem := List.mem_of_getElem? en2
          exact hq X.K ρ2 F2 H2 _ vs us xs ds ys z _ hys h1 l r2 fun vs' w l' rw' => po2 _ ρ2 F2 _ (e2.cellSet hmem) (st2.cellSet en2 (.L l')) (lo2.cellSet hmem)
      · exact po2.elim
    · exact po2.elim
end
end Mn
set_option Elab.async false
set_option linter.all false
set_option maxRecDepth 100000
set_option maxHeartbeats 4000000
/-! The small language is sound: ways, loops, whole defs. -/
namespace Mn
open PySem L2 PyProof.Rows

def asNameE : Option Expr → Option Expr := id
section
variable {X : Cx} {Z : Ev} {G : Gi} {k : Nat} {B M : Bs} {K : PySem.W.Frag} (g : GdH X Z G) (N : Nat)
include g
theorem ss_ret {m : ME} {e : Expr} {p : Pos} (h : PE X e (tE X.K Z m)) : PS X (.Return (some e) p) (tS X.K Z B N (.ret m)) := (ps_ret h).conseq fun D σ H q => by
  simp only [tS, exec] at q
  exact tSt.expr anti_RD q fun M δ d s1 v ρ1 F1 H1 e1 st1 lo1 r1 po => po v ρ1 F1 H1 e1 st1 r1
theorem ss_retF {m : MF} {e : Expr} {p : Pos} (h : PE X e (tF X.K Z m)) : PS X (.Return (some e) p) (tS X.K Z B N (.retF m)) := (ps_ret h).conseq fun D σ H q => by
  simp only [tS, exec] at q
  exact tSt.expr anti_RO q fun M δ d s1 v ρ1 F1 H1 e1 st1 lo1 r1 po => po v ρ1 F1 H1 e1 st1 r1
theorem ss_retV {i : Nat} {x : Str} {p p' : Pos} (hN : X.N[i]? = some x) (hv : Vis X.env.scope x) (hd1 : (x == ("__debug__" : Str)) = false) (hd2 : (x == ("__classdict__" : Str)) = false) : PS X (.Return (some (.Name x p')) p) (tS X.K Z B N (.retV i)) := (ps_ret (pe_var hN hv hd1 hd2)).conseq fun D σ H q => by
  obtain ⟨M, δ, s, ρ, F, e0, st, lo, po⟩ := q
  simp only [exec] at po
  split at po
  · rename_i d ho
    obtain ⟨ω, l⟩ := id lo
    obtain ⟨v, a1, a2⟩ := l.dat i d ho
    exact ⟨v, a1, po v ρ F H e0 st a2⟩
  · rename_i xs ho
    obtain ⟨ω, l⟩ := id lo
    obtain ⟨a1, ⟨vs, a2, a3⟩, a4, a5, a6⟩ := l.own i xs ho
    exact ⟨_, a1, po _ ρ F H e0 st ⟨_, vs, rfl, a2, a3, a4, a5, a6⟩⟩
  · exact po.elim
theorem ss_retN {p : Pos} : PS X (.Return none p) (tS X.K Z B N .retN) := ps_retN.conseq fun D σ H q => by
  obtain ⟨M, δ, s, ρ, F, e0, st, lo, po⟩ := q
  simp only [exec] at po
  exact po .non ρ F H e0 st .non
theorem ss_exp {m : ME} {e : Expr} {p : Pos} (hc : notComp e = true) (h : PE X e (tE X.K Z m)) : PS X (.Expr e p) (tS X.K Z B N (.exp m)) := (ps_expr h (swaps_ hc _ _ _)).conseq fun D σ H q => by
  simp only [tS, exec] at q
  exact tSt.expr anti_RD q fun M δ d s1 v ρ1 F1 H1 e1 st1 lo1 r1 po => po σ ρ1 F1 H1 e1 st1 lo1
theorem ss_doc {x : Str} {j : Nat} {p p' : Pos} : PS X (.Expr (.Constant (.str x) j p) p') (tS X.K Z B N .pass) := ps_doc.conseq fun D σ H q => by
  obtain ⟨M, δ, s, ρ, F, e0, st, lo, po⟩ := q
  simp only [exec] at po
  exact po σ ρ F H e0 st lo
theorem ss_pass {p : Pos} : PS X (.Pass p) (tS X.K Z B N .pass) := ps_pass.conseq fun D σ H q => by
  obtain ⟨M, δ, s, ρ, F, e0, st, lo, po⟩ := q
  simp only [exec] at po
  exact po σ ρ F H e0 st lo
theorem ss_brk {p : Pos} : PS X (.Break p) (tS X.K Z B N .brk) := ps_break.conseq fun D σ H q => by
  obtain ⟨M, δ, s, ρ, F, e0, st, lo, po⟩ := q
  simp only [exec] at po
  exact po σ ρ F H e0 st lo
theorem ss_cont {p : Pos} : PS X (.Continue p) (tS X.K Z B N .cont) := ps_continue.conseq fun D σ H q => by
  obtain ⟨M, δ, s, ρ, F, e0, st, lo, po⟩ := q
  simp only [exec] at po
  exact po σ ρ F H e0 st lo
theorem ss_rais {st : Stmt} : PS X st (tS X.K Z B N .rais) := ps_never.conseq fun D σ H q => by
  obtain ⟨M, δ, s, ρ, F, e0, st, lo, po⟩ := q
  simp only [exec] at po
  exact po.elim
theorem ss_if {c : MQ} {a b : MSs} {t : Expr} {x y : List Stmt} {p : Pos} (hc : PT X t (tQ X.K Z c)) (ha : PSs X x (tSs X.K Z B N a)) (hb : PSs X y (tSs X.K Z B N b)) : PS X (.If t x y p) (tS X.K Z B N (.ifS c a b)) := (ps_if hc ha hb).conseq fun D σ H q => by
  simp only [tS, exec] at q
  refine tSt.expr anti_RB q fun M δ d s1 v ρ1 F1 H1 e1 st1 lo1 r1 po => ?_
  cases r1
  cases d with
  | true => rw [if_pos rfl] at po ⊢; exact ⟨M, δ, s1, ρ1, F1, e1, st1, lo1, po⟩
  | false => rw [if_neg Bool.false_ne_true] at po ⊢; exact ⟨M, δ, s1, ρ1, F1, e1, st1, lo1, po⟩
omit g in
theorem loop_end {r : Rs} {f : Sto → Lcs → Rs} {D : Ends} {W : L2.St → Hp → Prop} (po : PostS K Z B M (match r with | .nx s2 δ2 => f s2 δ2 | .ct s2 δ2 => f s2 δ2 | .bk s2 δ2 => .nx s2 δ2 | r => r) D)
    (hW : ∀ s2 δ2, PostS K Z B M (f s2 δ2) D → ∀ σ ρ F H, EB Z B M ρ F H s2 → StOk K Z.cm Z.nm ρ F H s2 → LocOk K Z.HX ρ F H σ δ2 → W σ H) : PostS K Z B M r { D with nx := W, ct := W, bk := D.nx } := by
  cases r with
  | no => exact po
  | nx s2 δ2 => exact fun σ ρ F H e st lo => hW s2 δ2 po σ ρ F H e st lo
  | ct s2 δ2 => exact fun σ ρ F H e st lo => hW s2 δ2 po σ ρ F H e st lo
  | bk s2 δ2 => exact po
  | ret o s2 => exact po
  | ex x s2 δ2 => exact po
theorem ss_whl (pas : PassesOwn (model X.prog X.w) X.A X.env X.xe) {c : MQ} {b : MSs} {t : Expr} {x : List Stmt} {p : Pos} (hc : PT X t (tQ X.K Z c)) (hb : PSs X x (tSs X.K Z B N b)) : PS X (.While t x [] p) (tS X.K Z B N (.whl c b)) := (ps_while pas hc hb).conseq fun D σ H q => by
  obtain ⟨M, δ, s, ρ, F, e0, st, lo, po⟩ := q
  simp only [exec] at po
  refine ⟨fun m σ H => ∃ M δ s ρ F, EB Z B M ρ F H s ∧ StOk X.K Z.cm Z.nm ρ F H s ∧ LocOk X.K Z.HX ρ F H σ δ ∧ PostS X.K Z B M (whlGo (evalT Z.cf c) (execs Z.cf N b) m s δ) D, ⟨N, M, δ, s, ρ, F, e0, st, lo, po⟩, ?_⟩
  rintro m σ H ⟨M, δ, s, ρ, F, e0, st, lo, po⟩
  cases m with
  | zero => exact po.elim
  | succ m =>
    simp only [whlGo] at po
    refine ⟨δ, s, ρ, F, st, lo, PostS.expr anti_RB e0 lo po fun d s1 v ρ1 F1 H1 e' e1 st1 lo1 r1 po1 => ?_⟩
    cases r1
    cases d with
    | true =>
      rw [if_pos rfl] at po1 ⊢
      refine ⟨_, fun σ' H' w => ⟨m, Nat.lt_succ_self m, w⟩, M, δ, s1, ρ1, F1, e1, st1, lo1, ?_⟩
      exact loop_end po1 fun s2 δ2 po2 σ2 ρ2 F2 H2 e2 st2 lo2 => ⟨M, δ2, s2, ρ2, F2, e2, st2, lo2, po2⟩
    | false =>
      rw [if_neg Bool.false_ne_true] at po1 ⊢
      exact po1 σ ρ1 F1 H1 e1 st1 lo1
theorem ss_for (hcalm : X.calm = true) (pas : PassesOwn (model X.prog X.w) X.A X.env X.xe) {tg : MT} {it : MI} {b : MSs} {t i : Expr} {x : List Stmt} {p : Pos} (hset : notSet i = true) (hi : PI X t i (tI X.K Z it)) (hg : PG X t (gTm X.K tg)) (hb : PSs X x (tSs X.K Z B N b)) : PS X (.For t i x [] p) (tS X.K Z B N (.forS tg it b)) :=
  (ps_for pas hcalm hi hg hb (folded_ hset X.env)).conseq fun D σ H q => by
  simp only [tS, exec] at q
  refine tSt.expr anti_RI q fun M δ t s1 J ρ1 F1 H1 e1 st1 lo1 j1 po => ?_
  refine ⟨fun i m σ H => m = t.xs.length - i ∧ i ≤ t.xs.length ∧ ∃ δ s ρ F, EB Z B ⟨ρ1, F1, s1⟩ ρ F H s ∧ StOk X.K Z.cm Z.nm ρ F H s ∧ LocOk X.K Z.HX ρ F H σ δ ∧ PostS X.K Z B ⟨ρ1, F1, s1⟩ (forGo t tg (execs Z.cf N b) (t.xs.drop i) s δ) D,
    ⟨t.xs.length, by simp, Nat.zero_le _, δ, s1, ρ1, F1, ⟨e1.ext, List.prefix_refl _, Same.refl _⟩, st1, lo1, ?_⟩, ?_⟩
  · rw [List.drop_zero]
    -- the later bound is the earlier one's too
    have wk : ∀ r : Rs, PostS X.K Z B M r D → PostS X.K Z B ⟨ρ1, F1, s1⟩ r D := fun r po => by
      cases r <;> first
        | exact po
        | exact fun σ ρ F H e st lo => po σ ρ F H ⟨e.ext, e1.mp.trans e.mp, e1.mf.trans e.mf⟩ st lo
        | exact fun σ ρ F H cls d e st lo x => po σ ρ F H cls d ⟨e.ext, e1.mp.trans e.mp, e1.mf.trans e.mf⟩ st lo x
    exact wk _ po
  · rintro i m σ H2 ⟨rfl, hi, δ, s, ρ, F, e, st, lo, po⟩
    have hst : t.still s := by
      cases hd : t.xs.drop i with
      | nil => rw [hd] at po; simp only [forGo] at po; split at po; · assumption
               · exact po.elim
      | cons y ys => rw [hd] at po; simp only [forGo] at po; split at po; · assumption
                     · exact po.elim
    obtain ⟨jstop, jgo⟩ := j1 ρ F H2 s e.mp e.mf st hst
    by_cases hlt : i < t.xs.length
    · have hdrop : t.xs.drop i = t.xs[i] :: t.xs.drop (i + 1) := List.drop_eq_getElem_cons hlt
      rw [hdrop] at po
      simp only [forGo] at po
      rw [if_pos hst] at po
      obtain ⟨hgo1, hy⟩ := jgo i hlt
      refine .inr ⟨hgo1, _, fun σ' H' w => ⟨t.xs.length - (i + 1), by omega, w⟩, fun xv H3 y3 => ?_⟩
      obtain ⟨d0, F3, hd0, e3, st3, r3⟩ := hy xv H3 y3
      have hd0' : d0 = t.xs[i] := by simpa [hlt] using hd0.symm
      subst hd0'
      split at po
      · rename_i δ1 hbind
        refine gT_ok (own := slotsT tg) st3 (lo.ext e3) r3 hbind (fun _ h => h) fun σ2 lo4 _ => ?_
        refine ⟨⟨ρ1, F1, s1⟩, δ1, s, ρ, F3, e.trans e3, st3, lo4, ?_⟩
        exact loop_end po fun s2 δ2 po2 σ2 ρ2 F2 H4 e2 st2 lo2 => ⟨rfl, hlt, δ2, s2, ρ2, F2, e2, st2, lo2, po2⟩
      · exact po.elim
    · have hi2 : i = t.xs.length := by omega
      subst hi2
      rw [List.drop_length] at po
      simp only [forGo] at po
      rw [if_pos hst] at po
      refine .inl ⟨jstop _ (Nat.le_refl _), ?_⟩
      exact po σ ρ F H2 e st lo
/-! ### blocks -/
theorem sss_nil : PSs X [] (tSs X.K Z B N .nil) := pss_nil.conseq fun D σ H q => by
  obtain ⟨M, δ, s, ρ, F, e0, st, lo, po⟩ := q
  simp only [execs] at po
  exact po σ ρ F H e0 st lo
theorem sss_cons {m : MS} {ms : MSs} {st : Stmt} {sts : List Stmt} (h : PS X st (tS X.K Z B N m)) (h' : PSs X sts (tSs X.K Z B N ms)) : PSs X (st :: sts) (tSs X.K Z B N (.cons m ms)) := (pss_cons h h').conseq fun D σ H q => by
  obtain ⟨M, δ, s, ρ, F, e0, st, lo, po⟩ := q
  simp only [execs] at po
  refine ⟨M, δ, s, ρ, F, e0, st, lo, ?_⟩
  cases hr : exec Z.cf N m s δ with
  | nx s1 δ1 =>
    rw [hr] at po
    exact fun σ1 ρ1 F1 H1 e1 st1 lo1 => ⟨M, δ1, s1, ρ1, F1, e1, st1, lo1, po⟩
  | _ => rw [hr] at po; exact po
theorem sss_frz {i : Nat} {ms : MSs} {sts : List Stmt} (h' : PSs X sts (tSs X.K Z B N ms)) : PSs X sts (tSs X.K Z B N (.cons (.frz i) ms)) := h'.conseq fun D σ H q => by
  obtain ⟨M, δ, s, ρ, F, e0, st, lo, po⟩ := q
  simp only [execs, exec] at po
  split at po
  · rename_i s1 δ1 heq
    split at heq
    · rename_i xs hxs
      cases heq
      obtain ⟨p, vs, h0, hF, st1, lo1⟩ := lo.frz st hxs
      exact ⟨M, _, s, ρ, _, e0.freeze hF h0, st1, lo1, po⟩
    · cases heq
      exact ⟨M, δ, s, ρ, F, e0, st, lo, po⟩
  · rename_i q hq
    exfalso
    split at hq
    · exact hq _ _ rfl
    · exact hq _ _ rfl
end
end Mn

namespace Mn
open PySem L2 PyProof.Rows
section
variable {X : Cx} {Z : Ev} {G : Gi} {k : Nat} {B : Bs} {C fI : Addr} {xc qi : Str} {c : Nat}
/-- raise C(), as a statement of the small language will have it -/
theorem ss_raise0 (g : Gd X Z G k) (tk : Takes X Z.W) {bmB : List Value} {B' newId initId : String} {p pos pos2 : Pos} (F : ExcBaseFacts B' newId initId bmB) (q : PySem.W.excIn X.K C bmB newId = true) (gC : X.mg xc = some (.ref C)) (kC : PySem.W.keepIn X.K (.ref C) = true) (r : Raises X (.ref C)) (hg : Gl X xc)
    (hdb : (xc == ("__debug__" : Str)) = false) (h1 : Z.xm[c]? = some C) (h2 : Z.xf[c]? = some []) :
    PS X (.Raise (some (.Call (.Name xc p) [] [] pos)) none pos2) (tSt X.K Z B fun s δ => .ex (.tup [.int (c : Int)]) s δ) := (ps_raise_bare g.calm tk F q gC kC r hg hdb).conseq fun D σ H h => by
  obtain ⟨M, δ, s, ρ, F, e0, st, lo, po⟩ := h
  exact po σ ρ F H (.ref C) none e0 st lo ⟨c, C, [], h1, h2, rfl, rfl, rfl⟩
theorem ss_raise_at (g : Gd X Z G k) (tk : Takes X Z.W) {m : ME} {a : Expr} {p pos pos2 : Pos} (T : PySem.OwnX_at.LowTxt X.K X.mg xc qi C fI) (hg : Gl X xc) (hs : notStar a = true) (ha : PE X a (tE X.K Z m)) (h1 : Z.xm[c]? = some C) (h2 : Z.xf[c]? = some [("at" : Str)]) :
    PS X (.Raise (some (.Call (.Name xc p) [a] [] pos)) none pos2) (tSt X.K Z B fun s δ => (evalE Z.cf m δ s).run fun d s1 => .ex (.tup [.int (c : Int), d]) s1 δ) :=
  (ps_raise_at g.calm T g.room tk (pa_cons ha pa_nil (starEach_ hs _ _)) hg (starEach_ hs _ _)).conseq fun D σ H h => by
  refine tSt.expr anti_RD h fun M δ d s1 v ρ1 F1 H1 e1 st1 lo1 r1 po => ?_
  refine ⟨v, rfl, fun dx hdx => ?_⟩
  have al : Ext ρ1 F1 H1 s1 ρ1 F1 (upd H1 dx (.xd [(("at" : Str), v)])) s1 := Ext.alloc hdx
  exact po σ ρ1 F1 (upd H1 dx (.xd [(("at" : Str), v)])) (.ref C) (some dx) (e1.trans al) (st1.alloc hdx) (lo1.ext al) ⟨c, C, [("at" : Str)], h1, h2, rfl, rfl, dx, v, rfl, upd_same, r1⟩
theorem ss_raise_name (g : Gd X Z G k) (tk : Takes X Z.W) {m : ME} {a : Expr} {p pos pos2 : Pos} (T : PySem.OwnX_name.LowTxt X.K X.mg xc qi C fI) (hg : Gl X xc) (hs : notStar a = true) (ha : PE X a (tE X.K Z m)) (h1 : Z.xm[c]? = some C) (h2 : Z.xf[c]? = some [("name" : Str)]) :
    PS X (.Raise (some (.Call (.Name xc p) [a] [] pos)) none pos2) (tSt X.K Z B fun s δ => (evalE Z.cf m δ s).run fun d s1 => .ex (.tup [.int (c : Int), d]) s1 δ) :=
  (ps_raise_name g.calm T g.room tk (pa_cons ha pa_nil (starEach_ hs _ _)) hg (starEach_ hs _ _)).conseq fun D σ H h => by
  refine tSt.expr anti_RD h fun M δ d s1 v ρ1 F1 H1 e1 st1 lo1 r1 po => ?_
  refine ⟨v, rfl, fun dx hdx => ?_⟩
  have al : Ext ρ1 F1 H1 s1 ρ1 F1 (upd H1 dx (.xd [(("name" : Str), v)])) s1 := Ext.alloc hdx
  exact po σ ρ1 F1 (upd H1 dx (.xd [(("name" : Str), v)])) (.ref C) (some dx) (e1.trans al) (st1.alloc hdx) (lo1.ext al) ⟨c, C, [("name" : Str)], h1, h2, rfl, rfl, dx, v, rfl, upd_same, r1⟩
theorem ss_raise_wanted (g : Gd X Z G k) (tk : Takes X Z.W) {m : ME} {a : Expr} {p pos pos2 : Pos} (T : PySem.OwnX_wanted.LowTxt X.K X.mg xc qi C fI) (hg : Gl X xc) (hs : notStar a = true) (ha : PE X a (tE X.K Z m)) (h1 : Z.xm[c]? = some C) (h2 : Z.xf[c]? = some [("wanted" : Str)]) :
    PS X (.Raise (some (.Call (.Name xc p) [a] [] pos)) none pos2) (tSt X.K Z B fun s δ => (evalE Z.cf m δ s).run fun d s1 => .ex (.tup [.int (c : Int), d]) s1 δ) :=
  (ps_raise_wanted g.calm T g.room tk (pa_cons ha pa_nil (starEach_ hs _ _)) hg (starEach_ hs _ _)).conseq fun D σ H h => by
  refine tSt.expr anti_RD h fun M δ d s1 v ρ1 F1 H1 e1 st1 lo1 r1 po => ?_
  refine ⟨v, rfl, fun dx hdx => ?_⟩
  have al : Ext ρ1 F1 H1 s1 ρ1 F1 (upd H1 dx (.xd [(("wanted" : Str), v)])) s1 := Ext.alloc hdx
  exact po σ ρ1 F1 (upd H1 dx (.xd [(("wanted" : Str), v)])) (.ref C) (some dx) (e1.trans al) (st1.alloc hdx) (lo1.ext al) ⟨c, C, [("wanted" : Str)], h1, h2, rfl, rfl, dx, v, rfl, upd_same, r1⟩
end
section
variable {X : Cx} {Z : Ev} {G : Gi} {k : Nat} {B : Bs} (g : Gd X Z G k) (N : Nat)
include g
omit g in
theorem RO.anti {K : PySem.W.Frag} {Hs Hs' : Hp} {ρ : List Addr} {F H : Hp} {b : V} {o : O} (k : ∀ p, Hs p = none → Hs' p = none) (h : RO K Hs ρ F H b o) : RO K Hs' ρ F H b o := anti_RO _ _ _ _ _ _ _ k h
theorem cx_pe (tk : Takes X Z.W) {f : Nat} {ms : MEs} {h : Lcs → O → Sto → Rs} {x : Str} {e : Expr} {es : List Expr} {p q : Pos} (hf : G.fn[f]? = some x) (hg : Gl X x) (hd : (x == ("__debug__" : Str)) = false) (hs : (e :: es).all notStar = true) (he : PA X (e :: es) (tEs X.K Z ms)) :
    PE X (.Call (.Name x p) (e :: es) [] q) (fun σ H Q => ∃ D, tSt X.K Z B (fun s δ => (evalEs Z.cf ms δ s).run fun ds s1 => match Z.cf f ds s1 with | .ok o s2 => h δ o s2 | .ex x s2 => .ex x s2 δ | .no => .no) D σ H ∧
      ∀ M δ o s2 b ρ1 F1 H2 δ0 s0 ρ0 F0 Hs, EB Z B M ρ1 F1 H2 s2 → StOk X.K Z.cm Z.nm ρ1 F1 H2 s2 → LocOk X.K Z.HX ρ0 F0 Hs σ δ → Ext ρ0 F0 Hs s0 ρ1 F1 H2 s2 → RO X.K Hs ρ1 F1 H2 b o → (∀ p, Hs p = none → Z.H0 p = none) → δ0 = δ → PostS X.K Z B M (h δ o s2) D → Q b H2) := by
  obtain ⟨a, fd, ps, hm, hk, hb, F, hno⟩ := g.fnx f x hf
  have h1 : notStar e = true ∧ es.all notStar = true := by simpa using hs
  refine (pe_callS F g.room hg hm hk hb (fun σ => passAt tk σ) he hd (starEach_ h1.1 _ _) (nostars _ _ h1.2)).conseq fun σ H Q qq => ?_
  obtain ⟨D, q1, q2⟩ := qq
  refine tSt.expr (h := fun δ ds s1 => match Z.cf f ds s1 with | .ok o s2 => h δ o s2 | .ex x s2 => .ex x s2 δ | .no => .no) anti_RL q1 fun M δ ds s1 vs ρ1 F1 H1 e1 st1 lo1 r1 po => ?_
  refine ⟨ρ1, F1, s1, ds, ?_, st1, r1, ?_⟩
  · rw [r1.length]
    by_cases hl : ds.length = ps.length
    · exact hl
    · rw [hno ds s1 hl] at po; exact po.elim
  · cases hr : Z.cf f ds s1 with
    | no => rw [hr] at po; exact po
    | ok o s2 =>
      rw [hr] at po
      exact fun b ρ2 F2 H2 e2 st2 r2 => q2 M δ o s2 b ρ2 F2 H2 δ s1 ρ1 F1 H1 (e1.trans e2) st2 lo1 e2 r2 e1.back rfl po
    | ex y s2 =>
      rw [hr] at po
      exact fun ρ2 F2 H2 cls d e2 st2 x2 => po σ ρ2 F2 H2 cls d (e1.trans e2) st2 (lo1.ext e2) x2
variable (tk : Takes X Z.W)
include tk
theorem ss_cxE {f : Nat} {ms : MEs} {x : Str} {e : Expr} {es : List Expr} {p q r : Pos} (hf : G.fn[f]? = some x) (hg : Gl X x) (hd : (x == ("__debug__" : Str)) = false) (hs : (e :: es).all notStar = true) (he : PA X (e :: es) (tEs X.K Z ms)) :
    PS X (.Expr (.Call (.Name x p) (e :: es) [] q) r) (tS X.K Z B N (.cx .exp f ms)) := (ps_expr (cx_pe (B := B) (h := fun δ o s => cxOk .exp o s δ) g tk hf hg hd hs he) (swaps_ rfl _ _ _)).conseq fun D σ H qq => by
  simp only [tS, exec] at qq
  refine ⟨D, qq, fun M δ o s2 b ρ1 F1 H2 δ0 s0 ρ0 F0 Hs e1 st1 lo0 ee r1 h0 hδ po => ?_⟩
  exact po σ ρ1 F1 H2 e1 st1 (lo0.ext ee)
theorem ss_cxA {f i : Nat} {ms : MEs} {x y : Str} {e : Expr} {es : List Expr} {p q r p' : Pos} (hN : X.N[i]? = some y) (hl : Loc X.env.scope y) (hfn : X.fn y = true ∨ X.env.scope.names.lookup y = some .local) (hf : G.fn[f]? = some x) (hg : Gl X x) (hd : (x == ("__debug__" : Str)) = false) (hs : (e :: es).all notStar = true) (he : PA X (e :: es) (tEs X.K Z ms)) :
    PS X (.Assign [.Name y p'] (.Call (.Name x p) (e :: es) [] q) r) (tS X.K Z B N (.cx (.asg i) f ms)) := (ps_set g.nd hN hl (cx_pe (B := B) (h := fun δ o s => cxOk (.asg i) o s δ) g tk hf hg hd hs he) (swaps_ rfl _ _ _) hfn).conseq fun D σ H qq => by
  simp only [tS, exec] at qq
  refine ⟨D, qq, fun M δ o s2 b ρ1 F1 H2 δ0 s0 ρ0 F0 Hs e1 st1 lo0 ee r1 h0 hδ po => ?_⟩
  exact own_step e1 st1 lo0 ee r1 h0 po
theorem ss_cxR {f : Nat} {ms : MEs} {x : Str} {e : Expr} {es : List Expr} {p q r : Pos} (hf : G.fn[f]? = some x) (hg : Gl X x) (hd : (x == ("__debug__" : Str)) = false) (hs : (e :: es).all notStar = true) (he : PA X (e :: es) (tEs X.K Z ms)) :
    PS X (.Return (some (.Call (.Name x p) (e :: es) [] q)) r) (tS X.K Z B N (.cx .ret f ms)) := (ps_ret (cx_pe (B := B) (h := fun δ o s => cxOk .ret o s δ) g tk hf hg hd hs he)).conseq fun D σ H qq => by
  simp only [tS, exec] at qq
  refine ⟨D, qq, fun M δ o s2 b ρ1 F1 H2 δ0 s0 ρ0 F0 Hs e1 st1 lo0 ee r1 h0 hδ po => ?_⟩
  exact po b ρ1 F1 H2 e1 st1 (RO.anti h0 r1)
theorem ss_cxT {f : Nat} {is : List Nat} {ms : MEs} {t : Expr} {x : Str} {e : Expr} {es : List Expr} {p q r : Pos} (hgT : PG X t (gTm X.K (.tup is))) (h1 : (assignEach [t] X.env).map (·.2) = [assign t X.env]) (hf : G.fn[f]? = some x) (hg : Gl X x) (hd : (x == ("__debug__" : Str)) = false) (hs : (e :: es).all notStar = true) (he : PA X (e :: es) (tEs X.K Z ms)) :
    PS X (.Assign [t] (.Call (.Name x p) (e :: es) [] q) r) (tS X.K Z B N (.cx (.tup is) f ms)) := (ps_asg (cx_pe (B := B) (h := fun δ o s => cxOk (.tup is) o s δ) g tk hf hg hd hs he) hgT (swS_ rfl _ _ _) (stores_ rfl _ _) h1).conseq fun D σ H qq => by
  simp only [tS, exec] at qq
  refine ⟨D, qq, fun M δ o s2 b ρ1 F1 H2 δ0 s0 ρ0 F0 Hs e1 st1 lo0 ee r1 h0 hδ po => ?_⟩
  simp only [cxOk] at po
  split at po
  · rename_i xs
    split at po
    · rename_i δ1 hb
      exact gT_ok (own := is) (t := .tup is) st1 (lo0.ext ee) r1 hb (fun _ h => h) fun σ2 l2 _ => po _ ρ1 F1 H2 e1 st1 l2
    · exact po.elim
  · exact po.elim
end
end Mn
set_option Elab.async false
set_option linter.all false
set_option maxRecDepth 100000
set_option maxHeartbeats 4000000
/-! The text against the small language: statements; every statement that matches is sound. -/
namespace Mn
open PySem L2 PyProof.Rows

def sAsg : Stmt → Option (Expr × Expr) | .Assign [t] e _ => some (t, e) | _ => none
def sAug : Stmt → Option (Expr × Operator × Expr) | .AugAssign t o e _ => some (t, o, e) | _ => none
def sExp : Stmt → Option Expr | .Expr e _ => some e | _ => none
def sIf : Stmt → Option (Expr × List Stmt × List Stmt) | .If t a b _ => some (t, a, b) | _ => none
def sWhl : Stmt → Option (Expr × List Stmt) | .While t a [] _ => some (t, a) | _ => none
def sFor : Stmt → Option (Expr × Expr × List Stmt) | .For t i a [] _ => some (t, i, a) | _ => none
def sRet : Stmt → Option (Option Expr) | .Return e _ => some e | _ => none
theorem sAsg_ {s : Stmt} {t e : Expr} (h : sAsg s = some (t, e)) : ∃ p, s = .Assign [t] e p := by
  unfold sAsg at h
  split at h
  · cases h; exact ⟨_, rfl⟩
  · cases h
theorem sAug_ {s : Stmt} {t e : Expr} {o : Operator} (h : sAug s = some (t, o, e)) : ∃ p, s = .AugAssign t o e p := by cases s <;> cases h; exact ⟨_, rfl⟩
def sRais : Stmt → Option (Str × List Expr) | .Raise (some (.Call (.Name x _) es [] _)) none _ => some (x, es) | _ => none
theorem sRais_ {s : Stmt} {x : Str} {es : List Expr} (h : sRais s = some (x, es)) : ∃ p p2 p3, s = .Raise (some (.Call (.Name x p) es [] p2)) none p3 := by
  unfold sRais at h
  split at h
  · cases h; exact ⟨_, _, _, rfl⟩
  · cases h
theorem sExp_ {s : Stmt} {e : Expr} (h : sExp s = some e) : ∃ p, s = .Expr e p := by cases s <;> cases h; exact ⟨_, rfl⟩
theorem sIf_ {s : Stmt} {t : Expr} {a b : List Stmt} (h : sIf s = some (t, a, b)) : ∃ p, s = .If t a b p := by cases s <;> cases h; exact ⟨_, rfl⟩
theorem sWhl_ {s : Stmt} {t : Expr} {a : List Stmt} (h : sWhl s = some (t, a)) : ∃ p, s = .While t a [] p := by
  unfold sWhl at h
  split at h
  · cases h; exact ⟨_, rfl⟩
  · cases h
theorem sFor_ {s : Stmt} {t i : Expr} {a : List Stmt} (h : sFor s = some (t, i, a)) : ∃ p, s = .For t i a [] p := by
  unfold sFor at h
  split at h
  · cases h; exact ⟨_, rfl⟩
  · cases h
theorem sRet_ {s : Stmt} {e : Option Expr} (h : sRet s = some e) : ∃ p, s = .Return e p := by cases s <;> cases h; exact ⟨_, rfl⟩
def asMeth : Expr → Option (Expr × Str × List Expr × Bool) | .Call (.Attribute o n pa) es [] p => some (o, n, es, pa.endLine == p.line) | _ => none
theorem asMeth_ {e o : Expr} {n : Str} {es : List Expr} {b : Bool} (h : asMeth e = some (o, n, es, b)) : ∃ pa p, e = .Call (.Attribute o n pa) es [] p ∧ (pa.endLine == p.line) = b := by
  unfold asMeth at h
  split at h
  · cases h; exact ⟨_, _, rfl, rfl⟩
  · cases h
def sMet (s : Stmt) : Option (Expr × Str × List Expr × Bool) := (sExp s).bind asMeth
theorem sMet_ {s : Stmt} {o : Expr} {n : Str} {es : List Expr} {b : Bool} (h : sMet s = some (o, n, es, b)) : ∃ pa p q, s = .Expr (.Call (.Attribute o n pa) es [] p) q ∧ (pa.endLine == p.line) = b := by
  unfold sMet at h
  obtain ⟨e, h1, h2⟩ := Option.bind_eq_some_iff.mp h
  obtain ⟨q, rfl⟩ := sExp_ h1
  obtain ⟨pa, p, rfl, hb⟩ := asMeth_ h2
  exact ⟨pa, p, q, rfl, hb⟩
def sAsS (s : Stmt) : Option (Expr × Expr × Expr) := (sAsg s).bind fun q => (asSub q.1).map fun r => (r.1, r.2, q.2)
theorem sAsS_ {s : Stmt} {x y e : Expr} (h : sAsS s = some (x, y, e)) : ∃ p p', s = .Assign [.Subscript x y p'] e p := by
  unfold sAsS at h
  obtain ⟨⟨t, e'⟩, h1, h2⟩ := Option.bind_eq_some_iff.mp h
  obtain ⟨⟨x', y'⟩, h3, h4⟩ := Option.map_eq_some_iff.mp h2
  obtain ⟨p, rfl⟩ := sAsg_ h1
  obtain ⟨p', rfl⟩ := asSub_ h3
  cases h4
  exact ⟨p, p', rfl⟩
def sAuS (s : Stmt) : Option (Expr × Expr × Operator × Expr) := (sAug s).bind fun q => (asSub q.1).map fun r => (r.1, r.2, q.2.1, q.2.2)
theorem sAuS_ {s : Stmt} {x y e : Expr} {o : Operator} (h : sAuS s = some (x, y, o, e)) : ∃ p p', s = .AugAssign (.Subscript x y p') o e p := by
  unfold sAuS at h
  obtain ⟨⟨t, o', e'⟩, h1, h2⟩ := Option.bind_eq_some_iff.mp h
  obtain ⟨⟨x', y'⟩, h3, h4⟩ := Option.map_eq_some_iff.mp h2
  obtain ⟨p, rfl⟩ := sAug_ h1
  obtain ⟨p', rfl⟩ := asSub_ h3
  cases h4
  exact ⟨p, p', rfl⟩
def isFrz : MS → Bool | .frz _ => true | _ => false
def sPar : Stmt → Option (Str × Str × Pos × Pos × Expr × Expr) | .Assign [.Tuple [.Name x px, .Name y py] _ _] (.Tuple [a, b] _ _) _ => some (x, y, px, py, a, b) | _ => none
theorem sPar_ {s : Stmt} {x y : Str} {px py : Pos} {a b : Expr} (h : sPar s = some (x, y, px, py, a, b)) : ∃ k p k2 p2 q, s = .Assign [.Tuple [.Name x px, .Name y py] k p] (.Tuple [a, b] k2 p2) q := by
  unfold sPar at h
  split at h
  · cases h; exact ⟨_, _, _, _, _, rfl⟩
  · cases h
theorem stores_par {x y : Str} {a b : Expr} {px py pt pt2 : Pos} {kt k2} {env : Env} (hbk : env.blockKind = .function) (ha : notStar a = true) (hb : notStar b = true) (hx : env.kindOf x = some .local) (hy : env.kindOf y = some .local) (hl : (py.line == px.line) = true) (hxy : x ≠ y)
    (hf : ([a, b].all (foldedForSure 8)) = false) (hc : ([a, b].all (constantsAlone 8)) = false) : swappedStores [.Tuple [.Name x px, .Name y py] kt pt] (.Tuple [a, b] k2 pt2) env = pure (some [x, y]) := by
  have hst : ([a, b].any fun | .Starred .. => true | _ => false) = false := by
    cases a <;> cases b <;> first | rfl | (cases ha; done) | (cases hb; done)
  have hl' : py.line = px.line := by simpa using hl
  have hyx : ¬ y = x := fun e => hxy e.symm
  unfold swappedStores
  simp only [List.length_cons, List.length_nil, hbk, List.head?_cons, Option.map_some, Option.getD_some, Expr.pos, List.filterMap_cons, List.filterMap_nil, hx, hy, hl', hf, hc]
  simp [hst, hyx, hxy, List.eraseDups_cons, hf, hc]
  intro h
  exfalso
  rcases h with h | h
  · cases a <;> first | (cases h; done) | (cases ha; done)
  · cases b <;> first | (cases h; done) | (cases hb; done)
def isDoc : Stmt → Bool | .Expr (.Constant (.str _) _ _) _ => true | _ => false
def isPass : Stmt → Bool | .Pass _ => true | _ => false
def isBrk : Stmt → Bool | .Break _ => true | _ => false
def isCont : Stmt → Bool | .Continue _ => true | _ => false
def noEs : List Expr → MEs → Bool | [], .nil => true | [], _ => false | _ :: _, _ => true
theorem noEs_ {es : List Expr} {ms : MEs} (h : noEs es ms = true) : es = [] → ms = .nil := fun e => by
  subst e; cases ms <;> first | rfl | cases h

section
variable (G : Gi) (N : List Str) (sc : Scope)
def tgN (i : Nat) (e : Expr) : Bool := match asName e with
  | some x => decide (N[i]? = some x) && locB sc x
  | none => false
def vrN (i : Nat) (e : Expr) : Bool := match asName e with
  | some x => decide (N[i]? = some x) && visB sc x && !(x == ("__debug__" : Str)) && !(x == ("__classdict__" : Str))
  | none => false
/-- a call that may raise -/
def mCx (f : Nat) (ms : MEs) (e : Expr) : Bool := match asCall e with
  | some (g, a :: es, []) => (match asName g with
    | some x => decide (G.fn[f]? = some x) && glB sc x && !(x == ("__debug__" : Str)) && mEs G N sc ms (a :: es)
    | none => false)
  | _ => false
-- suites behind except
mutual
def hS : MS → Stmt → Bool
  | .asg i m, st => (match sAsg st with | some (t, e) => tgN N sc i t && notComp e && hE G N sc m e | none => false)
  | .asgO i m, st => (match sAsg st with | some (t, e) => tgN N sc i t && notComp e && hF G N sc m e | none => false)
  | .ifS c a b, st => (match sIf st with | some (t, x, y) => hQ G N sc c t && hSs a x && hSs b y | none => false)
  | .ret m, st => (match sRet st with | some (some e) => hE G N sc m e | _ => false)
  | .retF m, st => (match sRet st with | some (some e) => hF G N sc m e | _ => false)
  | .retN, st => (match sRet st with | some none => true | _ => false)
  | .pass, st => isDoc st || isPass st
  | .cont, st => isCont st
  | .brk, st => isBrk st
  | _, _ => false
def hSs : MSs → List Stmt → Bool
  | .nil, [] => true
  | .nil, _ :: _ => false
  | .cons m ms, [] => isFrz m && hSs ms []
  | .cons m ms, st :: sts => if isFrz m then hSs ms (st :: sts) else hS m st && hSs ms sts
end
def sTry : Stmt → Option (List Stmt × List ExceptHandler) | .Try b hs [] [] _ => some (b, hs) | _ => none
def hNm (i : Option Nat) (nm : Option Str) : Bool := match i, nm with
  | none, none => true
  | some k, some x => decide (N[k]? = some x) && decide (sc.names.lookup x = some .local)
  | _, _ => false
def mHs : MHs → List ExceptHandler → Bool
  | .nil, [] => true
  | .cons x tb i b r, .ExceptHandler (some (.Name y _)) nm (b0 :: bs) _ :: hs => decide (y = x) && glB sc x && !(x == ("__debug__" : Str)) && (!tb.isEmpty) && tb.all (fun p => G.xs.contains (x, p.1, p.2)) && hNm N sc i nm && hSs G N sc b (b0 :: bs) && mHs r hs
  | _, _ => false
mutual
def mS : MS → Stmt → Bool
  | .cx w f ms, st => (match w with
    | .exp => (match sExp st with | some e => mCx G N sc f ms e | none => false)
    | .asg i => (match sAsg st with | some (t, e) => tgN N sc i t && mCx G N sc f ms e | none => false)
    | .tup is => (match sAsg st with | some (t, e) => mT N sc is (.tup is) t && mCx G N sc f ms e | none => false)
    | .ret => (match sRet st with | some (some e) => mCx G N sc f ms e | _ => false))
  | .tryS b hs, st => (match sTry st with | some (x, h0 :: hds) => mSs b x && mHs G N sc hs (h0 :: hds) | _ => false)
  | .asg i m, st => (match sAsg st with | some (t, e) => tgN N sc i t && notComp e && mE G N sc m e | none => false)
  | .asgO i m, st => (match sAsg st with | some (t, e) => tgN N sc i t && mF G N sc m e | none => false)
  | .asgC i m, st => (match sAsg st with | some (t, e) => tgN N sc i t && mF G N sc m e | none => false)
  | .asgT is m, st => (match sAsg st with | some (t, e) => mT N sc is (.tup is) t && notComp e && notTup e && mE G N sc m e | none => false)
  | .par i j a b, st => (match sPar st with
    | some (x, y, px, py, e, f) => decide (N[i]? = some x) && decide (N[j]? = some y) && decide (i ≠ j) && decide (x ≠ y) && decide (sc.names.lookup x = some .local) && decide (sc.names.lookup y = some .local) && (py.line == px.line) && !([e, f].all (foldedForSure 8)) && !([e, f].all (constantsAlone 8)) && notStar e && notStar f && mE G N sc a e && mE G N sc b f
    | none => false)
  | .aug i o m, st => (match sAug st with | some (t, p, e) => opBB o p && tgN N sc i t && mE G N sc m e | none => false)
  | .setC o k m, st => (match sAsS st with | some (x, y, e) => plainIx y && notComp e && mE G N sc o x && mE G N sc k y && mE G N sc m e | none => false)
  | .augC o k q m, st => (match sAuS st with | some (x, y, p, e) => opBB q p && plainIx y && mE G N sc o x && mE G N sc k y && mE G N sc m e | none => false)
  | .augO i k q m, st => (match sAuS st with | some (x, y, p, e) => opBB q p && plainIx y && vrN N sc i x && mE G N sc k y && mE G N sc m e | none => false)
  | .setO i k m, st => (match sAsS st with | some (x, y, e) => plainIx y && notComp e && vrN N sc i x && mE G N sc k y && mE G N sc m e | none => false)
  | .mtO m i ms, st => (match sMet st with
    | some (x, n, es, b) => vrN N sc i x && decide (n = omName m) && b && decide (es.length < 20) && mEs G N sc ms es && noEs es ms
    | none => false)
  | .mtC m o ms, st => (match sMet st with
    | some (x, n, es, b) => plainBase x && mE G N sc o x && decide (n = omName m) && b && decide (es.length < 20) && mEs G N sc ms es && noEs es ms
    | none => false)
  | .ifS c a b, st => (match sIf st with | some (t, x, y) => mQ G N sc c t && mSs a x && mSs b y | none => false)
  | .whl c b, st => (match sWhl st with | some (t, x) => mQ G N sc c t && mSs b x | none => false)
  | .forS tg it b, st => (match sFor st with | some (t, i, x) => mT N sc (slotsT tg) tg t && (notSet i && (!isZ it || tupE t)) && mI G N sc it i && mSs b x | none => false)
  | .ret m, st => (match sRet st with | some (some e) => mE G N sc m e | _ => false)
  | .retF m, st => (match sRet st with | some (some e) => mF G N sc m e | _ => false)
  | .retV i, st => (match sRet st with | some (some e) => vrN N sc i e | _ => false)
  | .retN, st => (match sRet st with | some none => true | _ => false)
  | .exp m, st => (match sExp st with | some e => notComp e && mE G N sc m e | none => false)
  | .pass, st => isDoc st || isPass st
  | .brk, st => isBrk st
  | .cont, st => isCont st
  | .frz _, _ => false
  | .rais, _ => true
  | .raisC c es, st => (match sRais st, G.xc[c]? with
    | some (x, []), some (y, []) => decide (x = y) && glB sc x && (match es with | .nil => true | _ => false)
    | some (x, [a]), some (y, [_]) => decide (x = y) && glB sc x && notStar a && (match es with | .cons m .nil => mE G N sc m a | _ => false)
    | _, _ => false)
def mSs : MSs → List Stmt → Bool
  | .nil, [] => true
  | .nil, _ :: _ => false
  | .cons m ms, [] => isFrz m && mSs ms []
  | .cons m ms, st :: sts => if isFrz m then mSs ms (st :: sts) else mS m st && mSs ms sts
end
end

theorem tgN_ {N : List Str} {sc : Scope} {i : Nat} {e : Expr} (h : tgN N sc i e = true) : ∃ x p, e = .Name x p ∧ N[i]? = some x ∧ Loc sc x := by
  unfold tgN at h
  split at h
  · rename_i x hx
    obtain ⟨p, rfl⟩ := asName_ hx
    simp only [Bool.and_eq_true, decide_eq_true_eq] at h
    exact ⟨x, p, rfl, h.1, locB_ h.2⟩
  · cases h
theorem sTry_ {s : Stmt} {b : List Stmt} {hs : List ExceptHandler} (h : sTry s = some (b, hs)) : ∃ p, s = .Try b hs [] [] p := by
  unfold sTry at h
  split at h
  · cases h; exact ⟨_, rfl⟩
  · cases h
mutual
theorem snd_hS {X : Cx} {Z : Ev} {G : Gi} (g : GdH X Z G) (hx : ∀ q, Z.hx = some q → SuiteAt X Z q) (hfn : ∀ x, X.fn x = true) (B : Bs) (n : Nat) : ∀ (m : MS) (st : Stmt), isFrz m = false → hS G X.N X.env.scope m st = true → PS X st (tS X.K Z B n m)
  | .asg i m, st, _, h => by
    simp only [hS] at h
    split at h
    · rename_i t e hx'
      obtain ⟨p, rfl⟩ := sAsg_ hx'
      simp only [Bool.and_eq_true] at h
      obtain ⟨x, p', rfl, hN, hl⟩ := tgN_ h.1.1
      exact ss_asg g n hN hl (.inl (hfn x)) h.1.2 (sh_E g hx m e h.2)
    · cases h
  | .asgO i m, st, _, h => by
    simp only [hS] at h
    split at h
    · rename_i t e hx'
      obtain ⟨p, rfl⟩ := sAsg_ hx'
      simp only [Bool.and_eq_true] at h
      obtain ⟨x, p', rfl, hN, hl⟩ := tgN_ h.1.1
      exact ss_asgO g n hN (ps_set g.nd hN hl (sh_F g hx m e h.2) (swaps_ h.1.2 _ _ _) (.inl (hfn x)))
    · cases h
  | .ifS c a b, st, _, h => by
    simp only [hS] at h
    split at h
    · rename_i t x y hx'
      obtain ⟨p, rfl⟩ := sIf_ hx'
      simp only [Bool.and_eq_true] at h
      exact ss_if g n (sh_Q g hx c t h.1.1) (snd_hSs g hx hfn B n a x h.1.2) (snd_hSs g hx hfn B n b y h.2)
    · cases h
  | .ret m, st, _, h => by
    simp only [hS] at h
    split at h
    · rename_i e hx'
      obtain ⟨p, rfl⟩ := sRet_ hx'
      exact ss_ret g n (sh_E g hx m e h)
    · cases h
  | .retF m, st, _, h => by
    simp only [hS] at h
    split at h
    · rename_i e hx'
      obtain ⟨p, rfl⟩ := sRet_ hx'
      exact ss_retF g n (sh_F g hx m e h)
    · cases h
  | .retN, st, _, h => by
    simp only [hS] at h
    split at h
    · rename_i hx'
      obtain ⟨p, rfl⟩ := sRet_ hx'
      exact ss_retN g n
    · cases h
  | .pass, st, _, h => by
    simp only [hS, Bool.or_eq_true] at h
    rcases h with h | h
    · unfold isDoc at h
      split at h
      · exact ss_doc g n
      · cases h
    · unfold isPass at h
      split at h
      · exact ss_pass g n
      · cases h
  | .brk, st, _, h => by
    simp only [hS] at h
    unfold isBrk at h
    split at h
    · exact ss_brk g n
    · cases h
  | .cont, st, _, h => by
    simp only [hS] at h
    unfold isCont at h
    split at h
    · exact ss_cont g n
    · cases h
  | .frz _, st, hz, h => by cases hz
  | .asgC _ _, _, _, h => by simp [hS] at h
  | .asgT _ _, _, _, h => by simp [hS] at h
  | .par _ _ _ _, _, _, h => by simp [hS] at h
  | .aug _ _ _, _, _, h => by simp [hS] at h
  | .setC _ _ _, _, _, h => by simp [hS] at h
  | .augC _ _ _ _, _, _, h => by simp [hS] at h
  | .setO _ _ _, _, _, h => by simp [hS] at h
  | .augO _ _ _ _, _, _, h => by simp [hS] at h
  | .mtO _ _ _, _, _, h => by simp [hS] at h
  | .mtC _ _ _, _, _, h => by simp [hS] at h
  | .whl _ _, _, _, h => by simp [hS] at h
  | .forS _ _ _, _, _, h => by simp [hS] at h
  | .retV _, _, _, h => by simp [hS] at h
  | .exp _, _, _, h => by simp [hS] at h
  | .rais, _, _, h => by simp [hS] at h
  | .raisC _ _, _, _, h => by simp [hS] at h
  | .cx _ _ _, _, _, h => by simp [hS] at h
  | .tryS _ _, _, _, h => by simp [hS] at h
theorem snd_hSs {X : Cx} {Z : Ev} {G : Gi} (g : GdH X Z G) (hx : ∀ q, Z.hx = some q → SuiteAt X Z q) (hfn : ∀ x, X.fn x = true) (B : Bs) (n : Nat) : ∀ (ms : MSs) (sts : List Stmt), hSs G X.N X.env.scope ms sts = true → PSs X sts (tSs X.K Z B n ms)
  | .nil, [], _ => sss_nil g n
  | .nil, _ :: _, h => by simp [hSs] at h
  | .cons m ms, [], h => by
    simp only [hSs, Bool.and_eq_true] at h
    obtain ⟨h1, h2⟩ := h
    cases m <;> first | cases h1 | skip
    exact sss_frz g n (snd_hSs g hx hfn B n ms [] h2)
  | .cons m ms, st :: sts, h => by
    simp only [hSs] at h
    cases hz : isFrz m with
    | true =>
      rw [hz, if_pos rfl] at h
      cases m <;> first | cases hz | skip
      exact sss_frz g n (snd_hSs g hx hfn B n ms (st :: sts) h)
    | false =>
      rw [hz, if_neg Bool.false_ne_true] at h
      simp only [Bool.and_eq_true] at h
      exact sss_cons g n (snd_hS g hx hfn B n m st hz h.1) (snd_hSs g hx hfn B n ms sts h.2)
end
/-- an exception in flight, told as a suite holds it -/
theorem xrep_fld {K : PySem.W.Frag} {cm : List Addr} {nm : List Str} {xm : List Addr} {xf : List (List Str)} {ρ : List Addr} {F H : Hp} {s : Sto} {x : D} {cls : Value} {d : Option Addr} (st : StOk K cm nm ρ F H s) (h : XRep K xm xf x ρ F H cls d) :
    ∃ (c : Nat) (C : Addr) (fs : List Str) (vs : List D), x = .tup (.int (c : Int) :: vs) ∧ xm[c]? = some C ∧ xf[c]? = some fs ∧ cls = .ref C ∧ ∀ i a, XFld K ρ F H ⟨i, a, c, vs, d, fs⟩ := by
  obtain ⟨c, C, fs, h1, h2, h3, hm⟩ := h
  split at hm
  · rename_i i
    obtain ⟨rfl, rfl⟩ := hm
    exact ⟨c, C, [], [], rfl, h1, h2, h3, fun _ _ => trivial⟩
  · rename_i i v f
    obtain ⟨rfl, a, u, rfl, hu, ru⟩ := hm
    refine ⟨c, C, [f], [v], rfl, h1, h2, h3, fun _ _ => ⟨fun hmem => ?_, u, hu, ru⟩⟩
    obtain ⟨n, hn⟩ := List.mem_iff_getElem?.mp hmem
    have hl : n < s.c.length := by rw [← st.len]; exact (List.getElem?_eq_some_iff.mp hn).1
    obtain ⟨o, q1, q2⟩ := st.cell n a s.c[n] hn (by simp [hl])
    rw [hu] at q1
    cases q1
    cases q2
  · exact hm.elim
/-- the context of a suite -/
theorem GdH.suite {X : Cx} {Z : Ev} {G : Gi} (g : GdH X Z G) (a : Addr) (pn : List (Addr × Obj)) (o : Option XH) (W : L2.WX) : GdH (Cx.suite X a pn) { Z with hx := o, W := W } G :=
  ⟨g.nd, g.hu, g.bl, g.cs, g.exc, g.xs, g.xf2⟩
def goneS (σ : L2.St) : Option Nat → L2.St | none => σ | some k => σ.set k none
theorem PostS.gone {K : PySem.W.Frag} {Z : Ev} {B M : Bs} (nohx : Z.hx = none) {W : L2.WX} {o : Option XH} {i : Option Nat} (hi : ∀ q, o = some q → i = some q.i) (ho : o = none → i = none) {r : Rs} {D : Ends} (h : PostS K Z B M (goneR i r) D) :
    PostS K { Z with hx := o, W := W } B M r (goneE D i) := by
  have loc : ∀ {ρ : List Addr} {F H : Hp} {σ : L2.St} {δ : Lcs}, LocOk K ⟨Z.H0, o⟩ ρ F H σ δ → LocOk K Z.HX ρ F H (goneS σ i) (goneL δ i) := fun {ρ F H σ δ} lo => by
    show LocOk K ⟨Z.H0, Z.hx⟩ ρ F H _ _
    rw [nohx]
    cases o with
    | none =>
      rw [ho rfl]
      exact lo
    | some q =>
      rw [hi q rfl]
      exact lo.unhx
  cases r with
  | no => exact h
  | nx s δ =>
    intro σ ρ F H e st lo
    have := h _ ρ F H ⟨e.ext, e.mp, e.mf⟩ st (loc lo)
    cases i <;> exact this
  | bk s δ =>
    intro σ ρ F H e st lo
    have := h _ ρ F H ⟨e.ext, e.mp, e.mf⟩ st (loc lo)
    cases i <;> exact this
  | ct s δ =>
    intro σ ρ F H e st lo
    have := h _ ρ F H ⟨e.ext, e.mp, e.mf⟩ st (loc lo)
    cases i <;> exact this
  | ret u s =>
    intro v ρ F H e st r
    have := h v ρ F H ⟨e.ext, e.mp, e.mf⟩ st r
    cases i <;> exact this
  | ex x s δ => exact h.elim
/-- the clauses of a try -/
theorem snd_Hs {X : Cx} {Z : Ev} {G : Gi} {k : Nat} (g : Gd X Z G k) (hfn : ∀ x, X.fn x = true) (B : Bs) (n : Nat) : ∀ (hs : MHs) (hds : List ExceptHandler), mHs G X.N X.env.scope hs hds = true → ∃ l : List Clause, ClausesOk X hds l ∧
    ∀ (D : Ends) (M : Bs) (x : Mn.D) (s : Sto) (δ : Lcs), PostS X.K Z B M (handle Z.cf n hs x s δ) D → ∀ σ ρ F H cls d, EB Z B M ρ F H s → StOk X.K Z.cm Z.nm ρ F H s → LocOk X.K Z.HX ρ F H σ δ → XRep X.K Z.xm Z.xf x ρ F H cls d → wClauses X.K Z.W D l cls d σ H
  | .nil, [], _ => ⟨[], .nil, fun D M x s δ po σ ρ F H cls d e st lo xr => by
      simp only [handle] at po
      exact po σ ρ F H cls d e st lo xr⟩
  | .nil, _ :: _, h => by simp [mHs] at h
  | .cons _ _ _ _ _, [], h => by simp [mHs] at h
  | .cons x tb' i' b' r', hd :: hs', h => by
    obtain ⟨y, p1, nm', b0, bs, p2, rfl⟩ : ∃ y p1 nm b0 bs p2, hd = .ExceptHandler (some (.Name y p1)) nm (b0 :: bs) p2 := by
      cases hd with
      | ExceptHandler ty nm suite pos =>
        cases ty with
        | none => simp [mHs] at h
        | some e =>
          cases e <;> first | (simp [mHs] at h; done) | skip
          cases suite with
          | nil => simp [mHs] at h
          | cons b0 bs => exact ⟨_, _, _, _, _, _, rfl⟩
    · simp only [mHs, Bool.and_eq_true, decide_eq_true_eq, Bool.not_eq_true'] at h
      obtain ⟨⟨⟨⟨⟨⟨⟨rfl, h2⟩, h3⟩, h4⟩, h5⟩, h6⟩, h7⟩, h8⟩ := h
      obtain ⟨l, ok, hl⟩ := snd_Hs g hfn B n r' hs' h8
      have ent : ∀ c bb, tb'.lookup c = some bb → (y, c, bb) ∈ G.xs := fun c bb hc => by
        simpa using List.all_eq_true.mp h5 (c, bb) (look_mem tb' hc)
      obtain ⟨c0, b00, hin0⟩ : ∃ c bb, (y, c, bb) ∈ G.xs := by
        cases tb' with
        | nil => cases h4
        | cons q t => exact ⟨q.1, q.2, by simpa using List.all_eq_true.mp h5 q List.mem_cons_self⟩
      obtain ⟨C0, vv0, v, _, _, _, hn, _, _, _⟩ := g.xs _ hin0
      have nms : Names X y v := ⟨glB_ h2, h3, hn⟩
      have exm : ∀ c C bb, tb'.lookup c = some bb → Z.xm[c]? = some C → PySem.W.exmOne X.K (.ref C) v = some bb := fun c C bb hc hC => by
        obtain ⟨C1, vv1, v1, _, _, hC1, hn1, he1, _, _⟩ := g.xs _ (ent c bb hc)
        rw [hC] at hC1; cases hC1
        have : v1 = v := by
          rcases hn with hn | ⟨hn, hb, _⟩ <;> rcases hn1 with hn1 | ⟨hn1, hb1, _⟩ <;> simp only at hn hn1 <;> (try simp only at hb) <;> (try simp only at hb1)
          · rw [hn] at hn1; exact (Option.some.inj hn1).symm
          · rw [hn] at hn1; cases hn1
          · rw [hn] at hn1; cases hn1
          · rw [hb] at hb1; exact (Option.some.inj hb1).symm
        rw [← this]; exact he1
      let ts : Addr → Value → Option Addr → TS := fun a cls d D σ H => ∃ o : Option XH, (∀ q, o = some q → q.a = a ∧ q.d = d ∧ (∃ C, cls = .ref C ∧ Z.xm[q.c]? = some C) ∧ Z.xf[q.c]? = some q.fs) ∧ tSs X.K { Z with hx := o, W := fun _ _ _ _ => False } B n b' D σ H
      have hsu : ∀ (a : Addr) (oe : Obj) (cls : Value) (d : Option Addr) (pn : List (Addr × Obj)), Zc cls d oe → (∃ vs, oe.data = .fields vs) → PSs (Cx.suite X a ((a, oe) :: pn)) (b0 :: bs) (ts a cls d) := fun a oe cls d pn hz hf => ⟨fun pins s σ H D I hh => by
        obtain ⟨o, hq, hh⟩ := hh
        refine (snd_hSs (X := Cx.suite X a ((a, oe) :: pn)) (Z := { Z with hx := o, W := fun _ _ _ _ => False }) (g.toGdH.suite a _ o _) (fun q e => ?_) hfn B n b' (b0 :: bs) h7).run pins s σ H D I hh
        obtain ⟨rfl, rfl, ⟨C, rfl, hC⟩, hfs⟩ := hq q e
        exact ⟨X, oe, pn, C, rfl, hz, hf, hC, hfs⟩⟩
      have hcl : ∃ i0 : Option Nat, i0 = i' ∧ ClausesOk X (.ExceptHandler (some (.Name y p1)) nm' (b0 :: bs) p2 :: hs') ((v, i0, ts) :: l) := by
        unfold hNm at h6
        split at h6
        · exact ⟨none, rfl, .bare nms hsu ok⟩
        · rename_i kk nn
          simp only [Bool.and_eq_true, decide_eq_true_eq] at h6
          exact ⟨some kk, rfl, .named nms h6.1 h6.2 hsu ok⟩
        · cases h6
      obtain ⟨i0, rfl, hcl⟩ := hcl
      refine ⟨_, hcl, fun D M x s δ po σ ρ F H cls d e st lo xr => ?_⟩
      obtain ⟨c, C, fs, vs, rfl, q1, q2, rfl, q4⟩ := xrep_fld st xr
      simp only [handle, Int.toNat_natCast] at po
      split at po
      · rename_i hc
        refine ⟨true, exm c C true hc q1, fun _ a ha => ?_, fun z => nomatch z⟩
        cases i0 with
        | none =>
          refine ⟨none, (fun q z => nomatch z), M, δ, s, ρ, F, ⟨e.ext, e.mp, e.mf⟩, st, ?_, PostS.gone (o := none) g.nohx (fun q z => nomatch z) (fun _ => rfl) po⟩
          have : Z.HX = ⟨Z.H0, none⟩ := by show Hx.mk Z.H0 Z.hx = _; rw [g.nohx]
          rw [this] at lo
          exact lo
        | some kk =>
          refine ⟨some ⟨kk, a, c, vs, d, fs⟩, (fun q z => by cases z; exact ⟨rfl, rfl, ⟨C, rfl, q1⟩, q2⟩), M, heldL δ c vs (some kk), s, ρ, F, ⟨e.ext, e.mp, e.mf⟩, st, ?_, PostS.gone (o := some ⟨kk, a, c, vs, d, fs⟩) g.nohx (fun q z => by cases z; rfl) (fun z => nomatch z) po⟩
          have : Z.HX = ⟨Z.H0, none⟩ := by show Hx.mk Z.H0 Z.hx = _; rw [g.nohx]
          rw [this] at lo
          exact (lo.rehx (o := some ⟨kk, a, c, vs, d, fs⟩)).held kk (q := ⟨kk, a, c, vs, d, fs⟩) rfl rfl (q4 _ _)
      · rename_i hc
        exact ⟨false, exm c C false hc q1, (fun z => nomatch z), fun _ => hl D M _ s δ po σ ρ F H _ d e st lo xr⟩
      · exact po.elim
section
variable {X : Cx} {Z : Ev} {G : Gi} {k : Nat} (g : Gd X Z G k) (hfn : ∀ x, X.fn x = true) (hbk : X.env.blockKind = .function)
theorem ss_par {B : Bs} (n : Nat) {i j : Nat} {a b : ME} {x y : Str} {e f : Expr} {px py pt pt2 p : Pos} {kt k2} (hi : X.N[i]? = some x) (hj : X.N[j]? = some y) (hij : i ≠ j) (hx : X.env.scope.names.lookup x = some .local) (hy : X.env.scope.names.lookup y = some .local)
    (he : notStar e = true) (hf : notStar f = true) (ha : PE X e (tE X.K Z a)) (hb : PE X f (tE X.K Z b)) (hw : swappedStores [.Tuple [.Name x px, .Name y py] kt pt] (.Tuple [e, f] k2 pt2) X.env = pure (some [x, y])) (hc : X.calm = true) (nd : X.N.Nodup) :
    PS X (.Assign [.Tuple [.Name x px, .Name y py] kt pt] (.Tuple [e, f] k2 pt2) p) (tS X.K Z B n (.par i j a b)) :=
  (ps_par hc nd hi hj hij hx hy (pa_cons ha (pa_cons hb pa_nil (starEach_ hf _ _)) (starEach_ he _ _)) hw).conseq fun D σ H q => by
  simp only [tS, exec] at q
  refine tSt.expr anti_RD q fun M δ d s1 v ρ1 F1 H1 e1 st1 lo1 r1 po => ?_
  refine ⟨δ, s1, ρ1, F1, st1, lo1, PostS.expr anti_RD e1 lo1 po fun d2 s2 w ρ2 F2 H2 e' e2 st2 lo2 r2 po2 => ?_⟩
  exact ⟨v, w, rfl, po2 _ ρ2 F2 H2 e2 st2 ((lo2.put i (r1.mono e'.pre e'.froz)).put j r2)⟩
include g hfn
theorem loc_all : ∀ x, locB X.env.scope x = true → Loc X.env.scope x ∧ (X.fn x = true ∨ X.env.scope.names.lookup x = some .local) := fun x h => ⟨locB_ h, .inl (hfn x)⟩
omit g hfn in
theorem vrN_ {N : List Str} {sc : Scope} {i : Nat} {e : Expr} (h : vrN N sc i e = true) : ∃ x p, e = .Name x p ∧ N[i]? = some x ∧ Vis sc x ∧ (x == ("__debug__" : Str)) = false ∧ (x == ("__classdict__" : Str)) = false := by
  unfold vrN at h
  split at h
  · rename_i x hx
    obtain ⟨p, rfl⟩ := asName_ hx
    simp only [Bool.and_eq_true, decide_eq_true_eq, Bool.not_eq_true'] at h
    exact ⟨x, p, rfl, h.1.1.1, visB_ h.1.1.2, h.1.2, h.2⟩
  · cases h
omit hfn in
theorem comp_asg (hfn : ∀ x, X.fn x = true) {f : MF} {i : Nat} {x : Str} {e : Expr} {p p' : Pos} (hN : X.N[i]? = some x) (hl : Loc X.env.scope x) (hc : notComp e = false) (h : mF G X.N X.env.scope f e = true) :
    PS X (.Assign [.Name x p'] e p) (tAsg (tF X.K Z f) (gName i)) := by
  cases f with
  | comp own tg it cnd elt =>
    simp only [mF] at h
    split at h
    · rename_i x t i fs sc2 hx
      obtain ⟨_, rfl⟩ := asComp_ hx
      simp only [Bool.and_eq_true] at h
      obtain ⟨⟨⟨⟨⟨h1, h2⟩, h3, hz⟩, h4⟩, h5⟩, h6⟩ := h
      have hm : ∀ i ∈ slotsT tg, i ∈ own := by
        have pt := pg_T (X := X.blk X.s_0 X.H_0 sc2 (compEnvC sc2 [] 0 X.env) []) g.calm (sc := sc2) rfl g.nd blk_loc h2
        exact pt.2
      refine ss_comp g hN hl (.inl (hfn _)) h1 h3 (snd_I g it t i h4 hz) hm (fun s H C cl fp => (pg_T (X := X.blk s H sc2 (compEnvC sc2 cl C X.env) fp) g.calm (sc := sc2) rfl g.nd blk_loc h2).1) (fun s H C cl fp => ?_)
        (fun s H C cl fp => snd_E (X := X.blk s H sc2 (compEnvC sc2 cl C X.env) fp) g.blk elt x h5)
      split at h6
      · cases cnd <;> first | cases h6 | skip
        exact ⟨fun pins s σ H Q I q => pts_nil.run pins s σ H Q I (by
          obtain ⟨δ, s, ρ, F, st, lo, po⟩ := q
          simp only [evalT] at po
          exact po.now st rfl)⟩
      · rename_i c
        exact pts_one (snd_Q (X := X.blk s H sc2 (compEnvC sc2 cl C X.env) fp) g.blk cnd c h6)
      · cases h6
    · cases h
  | _ => exfalso; cases e <;> first | (cases hc; done) | (simp only [mF] at h; exact Bool.false_ne_true h) | (rename_i f' m' _ _ _ _; cases f' <;> first | (simp only [mF] at h; exact Bool.false_ne_true h) | (simp [mF] at h; done)) | (rename_i f' m' _ _ _ _ _; cases f' <;> first | (simp only [mF] at h; exact Bool.false_ne_true h) | (simp [mF] at h; done))
theorem asgF_PS {f : MF} {i : Nat} {x : Str} {e : Expr} {p p' : Pos} (hN : X.N[i]? = some x) (hl : Loc X.env.scope x) (h : mF G X.N X.env.scope f e = true) :
    PS X (.Assign [.Name x p'] e p) (tAsg (tF X.K Z f) (gName i)) := by
  cases hc : notComp e with
  | true => exact ps_set g.nd hN hl (snd_F g f e h) (swaps_ hc _ _ _) (.inl (hfn x))
  | false => exact comp_asg g hfn hN hl hc h

omit g hfn hbk in
theorem Gd.tr (g : Gd X Z G k) (pn : List (Addr × Obj)) (xe : Value → Shared → Prop) (W : L2.WX) : Gd (Cx.tr X pn xe) { Z with W := W } G k :=
  { nd := g.nd, calm := g.calm, nohx := g.nohx, hu := g.hu, room := g.room, room2 := g.room2, bl := g.bl, cs := g.cs, fn := g.fn, fnx := g.fnx, nms := g.nms, cls := g.cls, mth := g.mth, isi := g.isi, exc := g.exc, xs := g.xs, xf2 := g.xf2 }
end
mutual
theorem snd_S {X : Cx} {Z : Ev} {G : Gi} {k : Nat} (g : Gd X Z G k) (hfn : ∀ x, X.fn x = true) (hbk : X.env.blockKind = .function) (pas : PassesOwn (model X.prog X.w) X.A X.env X.xe) (tk : L2.Takes X Z.W) (hst : X.stack = X.env :: X.outer) (hfr : X.env.frame = some X.env.locals) (B : Bs) (n : Nat) : ∀ (m : MS) (st : Stmt), isFrz m = false → mS G X.N X.env.scope m st = true → PS X st (tS X.K Z B n m)
  | .asg i m, st, _, h => by
    simp only [mS] at h
    split at h
    · rename_i t e hx
      obtain ⟨p, rfl⟩ := sAsg_ hx
      simp only [Bool.and_eq_true] at h
      obtain ⟨x, p', rfl, hN, hl⟩ := tgN_ h.1.1
      exact ss_asg g.toGdH n hN hl (.inl (hfn x)) h.1.2 (snd_E g m e h.2)
    · cases h
  | .asgO i m, st, _, h => by
    simp only [mS] at h
    split at h
    · rename_i t e hx
      obtain ⟨p, rfl⟩ := sAsg_ hx
      simp only [Bool.and_eq_true] at h
      obtain ⟨x, p', rfl, hN, hl⟩ := tgN_ h.1
      exact ss_asgO g.toGdH n hN (asgF_PS g hfn hN hl h.2)
    · cases h
  | .asgC i m, st, _, h => by
    simp only [mS] at h
    split at h
    · rename_i t e hx
      obtain ⟨p, rfl⟩ := sAsg_ hx
      simp only [Bool.and_eq_true] at h
      obtain ⟨x, p', rfl, hN, hl⟩ := tgN_ h.1
      exact ss_asgC g.toGdH n hN (asgF_PS g hfn hN hl h.2)
    · cases h
  | .asgT is m, st, _, h => by
    simp only [mS] at h
    split at h
    · rename_i t e hx
      obtain ⟨p, rfl⟩ := sAsg_ hx
      simp only [Bool.and_eq_true] at h
      have hg := (pg_T g.calm rfl g.nd (loc_all g hfn) h.1.1.1).1
      have ht := h.1.1.1
      simp only [mT] at ht
      split at ht
      · rename_i es hes
        obtain ⟨_, _, rfl⟩ := asTup_ hes
        exact ss_asgT g.toGdH n h.1.1.2 h.1.2 hg (snd_E g m e h.2) rfl
      · cases ht
    · cases h
  | .par i j a b, st, _, h => by
    simp only [mS] at h
    split at h
    · rename_i x y px py e f hx
      obtain ⟨kt, pt, k2, pt2, p, rfl⟩ := sPar_ hx
      simp only [Bool.and_eq_true, decide_eq_true_eq, Bool.not_eq_true'] at h
      obtain ⟨⟨⟨⟨⟨⟨⟨⟨⟨⟨⟨⟨h1, h2⟩, h3⟩, h4⟩, h5⟩, h6⟩, h7⟩, h8⟩, h9⟩, h10⟩, h11⟩, h12⟩, h13⟩ := h
      exact ss_par n h1 h2 h3 h5 h6 h10 h11 (snd_E g a e h12) (snd_E g b f h13) (stores_par hbk h10 h11 h5 h6 h7 h4 h8 h9) g.calm g.nd
    · cases h
  | .aug i o m, st, _, h => by
    simp only [mS] at h
    split at h
    · rename_i t q e hx
      obtain ⟨p, rfl⟩ := sAug_ hx
      simp only [Bool.and_eq_true] at h
      have h1 := opBB_ h.1.1
      subst h1
      obtain ⟨x, p', rfl, hN, hl⟩ := tgN_ h.1.2
      exact ss_aug g.toGdH n hN hl (.inl (hfn x)) (snd_E g m e h.2)
    · cases h
  | .setC o k' m, st, _, h => by
    simp only [mS] at h
    split at h
    · rename_i x y e hx
      obtain ⟨p, p', rfl⟩ := sAsS_ hx
      simp only [Bool.and_eq_true] at h
      obtain ⟨⟨⟨⟨h1, h2⟩, h4⟩, h5⟩, h6⟩ := h
      exact ss_setC g.toGdH n h1 h2 (snd_E g o x h4) (snd_E g k' y h5) (snd_E g m e h6)
    · cases h
  | .augC o k' q m, st, _, h => by
    simp only [mS] at h
    split at h
    · rename_i x y op e hx
      obtain ⟨p, p', rfl⟩ := sAuS_ hx
      simp only [Bool.and_eq_true] at h
      obtain ⟨⟨⟨⟨h1, h2⟩, h4⟩, h5⟩, h6⟩ := h
      have h1 := opBB_ h1
      subst h1
      exact ss_augC g.toGdH n h2 (snd_E g o x h4) (snd_E g k' y h5) (snd_E g m e h6)
    · cases h
  | .augO i k' q m, st, _, h => by
    simp only [mS] at h
    split at h
    · rename_i x y op e hx
      obtain ⟨p, p', rfl⟩ := sAuS_ hx
      simp only [Bool.and_eq_true] at h
      obtain ⟨⟨⟨⟨h1, h2⟩, h4⟩, h5⟩, h6⟩ := h
      have h1 := opBB_ h1
      subst h1
      obtain ⟨x, pn, rfl, hN, hv, hd1, hd2⟩ := vrN_ h4
      exact ss_augO g.toGdH n hN hv hd1 hd2 h2 (snd_E g k' y h5) (snd_E g m e h6)
    · cases h
  | .setO i k' m, st, _, h => by
    simp only [mS] at h
    split at h
    · rename_i x y e hx
      obtain ⟨p, p', rfl⟩ := sAsS_ hx
      simp only [Bool.and_eq_true] at h
      obtain ⟨⟨⟨⟨h1, h2⟩, h4⟩, h5⟩, h6⟩ := h
      obtain ⟨x, pn, rfl, hN, hv, hd1, hd2⟩ := vrN_ h4
      exact ss_setO g.toGdH n hN hv hd1 hd2 h1 h2 (snd_E g k' y h5) (snd_E g m e h6)
    · cases h
  | .mtO m i ms, st, _, h => by
    simp only [mS] at h
    split at h
    · rename_i x nm es b hx
      obtain ⟨pa, p, q, rfl, hb⟩ := sMet_ hx
      simp only [Bool.and_eq_true, decide_eq_true_eq] at h
      obtain ⟨⟨⟨⟨⟨h1, h2⟩, h3⟩, h4⟩, h5⟩, h6⟩ := h
      subst h2
      obtain ⟨x, pn, rfl, hN, hv, hd1, hd2⟩ := vrN_ h1
      exact ss_mtO g.toGdH n hN hv hd1 hd2 (hb.trans h3) h4 (mEs_stars h5) (snd_Es g ms es h5) (noEs_ h6)
    · cases h
  | .mtC m o ms, st, _, h => by
    simp only [mS] at h
    split at h
    · rename_i x nm es b hx
      obtain ⟨pa, p, q, rfl, hb⟩ := sMet_ hx
      simp only [Bool.and_eq_true, decide_eq_true_eq] at h
      obtain ⟨⟨⟨⟨⟨⟨h0, h1⟩, h2⟩, h3⟩, h4⟩, h5⟩, h6⟩ := h
      subst h2
      exact ss_mtC g.toGdH n h0 (hb.trans h3) h4 (snd_E g o x h1) (mEs_stars h5) (snd_Es g ms es h5) (noEs_ h6)
    · cases h
  | .ifS c a b, st, _, h => by
    simp only [mS] at h
    split at h
    · rename_i t x y hx
      obtain ⟨p, rfl⟩ := sIf_ hx
      simp only [Bool.and_eq_true] at h
      exact ss_if g.toGdH n (snd_Q g c t h.1.1) (snd_Ss g hfn hbk pas tk hst hfr B n a x h.1.2) (snd_Ss g hfn hbk pas tk hst hfr B n b y h.2)
    · cases h
  | .whl c b, st, _, h => by
    simp only [mS] at h
    split at h
    · rename_i t x hx
      obtain ⟨p, rfl⟩ := sWhl_ hx
      simp only [Bool.and_eq_true] at h
      exact ss_whl g.toGdH n pas (snd_Q g c t h.1) (snd_Ss g hfn hbk pas tk hst hfr B n b x h.2)
    · cases h
  | .forS tg it b, st, _, h => by
    simp only [mS] at h
    split at h
    · rename_i t i x hx
      obtain ⟨p, rfl⟩ := sFor_ hx
      simp only [Bool.and_eq_true] at h
      exact ss_for g.toGdH n g.calm pas h.1.1.2.1 (snd_I g it t i h.1.2 h.1.1.2.2) (pg_T g.calm rfl g.nd (loc_all g hfn) h.1.1.1).1 (snd_Ss g hfn hbk pas tk hst hfr B n b x h.2)
    · cases h
  | .ret m, st, _, h => by
    simp only [mS] at h
    split at h
    · rename_i e hx
      obtain ⟨p, rfl⟩ := sRet_ hx
      exact ss_ret g.toGdH n (snd_E g m e h)
    · cases h
  | .retF m, st, _, h => by
    simp only [mS] at h
    split at h
    · rename_i e hx
      obtain ⟨p, rfl⟩ := sRet_ hx
      exact ss_retF g.toGdH n (snd_F g m e h)
    · cases h
  | .retV i, st, _, h => by
    simp only [mS] at h
    split at h
    · rename_i e hx
      obtain ⟨p, rfl⟩ := sRet_ hx
      obtain ⟨x, pn, rfl, hN, hv, hd1, hd2⟩ := vrN_ h
      exact ss_retV g.toGdH n hN hv hd1 hd2
    · cases h
  | .retN, st, _, h => by
    simp only [mS] at h
    split at h
    · rename_i hx
      obtain ⟨p, rfl⟩ := sRet_ hx
      exact ss_retN g.toGdH n
    · cases h
  | .exp m, st, _, h => by
    simp only [mS] at h
    split at h
    · rename_i e hx
      obtain ⟨p, rfl⟩ := sExp_ hx
      simp only [Bool.and_eq_true] at h
      exact ss_exp g.toGdH n h.1 (snd_E g m e h.2)
    · cases h
  | .pass, st, _, h => by
    simp only [mS, Bool.or_eq_true] at h
    rcases h with h | h
    · unfold isDoc at h
      split at h
      · exact ss_doc g.toGdH n
      · cases h
    · unfold isPass at h
      split at h
      · exact ss_pass g.toGdH n
      · cases h
  | .brk, st, _, h => by
    simp only [mS] at h
    unfold isBrk at h
    split at h
    · exact ss_brk g.toGdH n
    · cases h
  | .cont, st, _, h => by
    simp only [mS] at h
    unfold isCont at h
    split at h
    · exact ss_cont g.toGdH n
    · cases h
  | .frz _, st, hz, h => by cases hz
  | .rais, st, _, h => ss_rais g.toGdH n
  | .cx w f ms, st, _, h => by
    have call : ∀ e, mCx G X.N X.env.scope f ms e = true → ∃ x p a es q, e = .Call (.Name x p) (a :: es) [] q ∧ G.fn[f]? = some x ∧ Gl X x ∧ (x == ("__debug__" : Str)) = false ∧ (a :: es).all notStar = true ∧ PA X (a :: es) (tEs X.K Z ms) := fun e he => by
      unfold mCx at he
      split at he
      · rename_i g' a es hx
        obtain ⟨q, rfl⟩ := asCall_ hx
        split at he
        · rename_i x hx'
          obtain ⟨p, rfl⟩ := asName_ hx'
          simp only [Bool.and_eq_true, decide_eq_true_eq, Bool.not_eq_true'] at he
          exact ⟨x, p, a, es, q, rfl, he.1.1.1, glB_ he.1.1.2, he.1.2, mEs_stars he.2, snd_Es g ms _ he.2⟩
        · cases he
      · cases he
    cases w with
    | exp =>
      simp only [mS] at h
      split at h
      · rename_i e hx
        obtain ⟨r, rfl⟩ := sExp_ hx
        obtain ⟨x, p, a, es, q, rfl, e1, e2, e3, e4, e5⟩ := call _ h
        exact ss_cxE g n tk e1 e2 e3 e4 e5
      · cases h
    | asg i =>
      simp only [mS] at h
      split at h
      · rename_i t e hx
        obtain ⟨r, rfl⟩ := sAsg_ hx
        simp only [Bool.and_eq_true] at h
        obtain ⟨y, p', rfl, hN, hl⟩ := tgN_ h.1
        obtain ⟨x, p, a, es, q, rfl, e1, e2, e3, e4, e5⟩ := call _ h.2
        exact ss_cxA g n tk hN hl (.inl (hfn y)) e1 e2 e3 e4 e5
      · cases h
    | tup is =>
      simp only [mS] at h
      split at h
      · rename_i t e hx
        obtain ⟨r, rfl⟩ := sAsg_ hx
        simp only [Bool.and_eq_true] at h
        have hg := (pg_T g.calm rfl g.nd (loc_all g hfn) h.1).1
        have ht := h.1
        obtain ⟨x, p, a, es, q, rfl, e1, e2, e3, e4, e5⟩ := call _ h.2
        simp only [mT] at ht
        split at ht
        · rename_i es' hes
          obtain ⟨_, _, rfl⟩ := asTup_ hes
          exact ss_cxT g n tk hg rfl e1 e2 e3 e4 e5
        · cases ht
      · cases h
    | ret =>
      simp only [mS] at h
      split at h
      · rename_i e hx
        obtain ⟨r, rfl⟩ := sRet_ hx
        obtain ⟨x, p, a, es, q, rfl, e1, e2, e3, e4, e5⟩ := call _ h
        exact ss_cxR g n tk e1 e2 e3 e4 e5
      · cases h
  | .tryS b hs, st, _, h => by
    simp only [mS] at h
    split at h
    · rename_i x h0 hds hx
      obtain ⟨p, rfl⟩ := sTry_ hx
      simp only [Bool.and_eq_true] at h
      obtain ⟨l, ok, hl⟩ := snd_Hs g hfn B n hs (h0 :: hds) h.2
      refine (ps_try_clauses (tb := fun W => tSs X.K { Z with W := W } B n b) (Wo := Z.W) hst hfr g.nd tk (fun W pn xe tk' pas' => snd_Ss (X := Cx.tr X pn xe) (Z := { Z with W := W }) (g.tr pn xe W) hfn hbk pas' tk' hst hfr B n b x h.1) ok).conseq fun D σ H q => ?_
      obtain ⟨M, δ, s, ρ, F, e0, st0, lo, po⟩ := q
      simp only [exec] at po
      refine ⟨M, δ, s, ρ, F, ⟨e0.ext, e0.mp, e0.mf⟩, st0, lo, ?_⟩
      show PostS X.K { Z with W := wClauses X.K Z.W D l } B M (execs Z.cf n b s δ) D
      revert po
      generalize execs Z.cf n b s δ = r
      intro po
      cases r with
      | ex y s1 δ1 => exact fun σ ρ F H cls d e st lo xr => hl D M y s1 δ1 po σ ρ F H cls d ⟨e.ext, e.mp, e.mf⟩ st lo xr
      | no => exact po
      | nx s1 δ1 => exact fun σ ρ F H e st lo => po σ ρ F H ⟨e.ext, e.mp, e.mf⟩ st lo
      | bk s1 δ1 => exact fun σ ρ F H e st lo => po σ ρ F H ⟨e.ext, e.mp, e.mf⟩ st lo
      | ct s1 δ1 => exact fun σ ρ F H e st lo => po σ ρ F H ⟨e.ext, e.mp, e.mf⟩ st lo
      | ret o s1 => exact fun v ρ F H e st r => po v ρ F H ⟨e.ext, e.mp, e.mf⟩ st r
    · cases h
  | .raisC c es, st, _, h => by
    simp only [mS] at h
    split at h
    · rename_i x y hx hy
      obtain ⟨p, p2, p3, rfl⟩ := sRais_ hx
      simp only [Bool.and_eq_true, decide_eq_true_eq] at h
      obtain ⟨⟨rfl, h2⟩, h3⟩ := h
      cases es with
      | cons _ _ => cases h3
      | nil =>
        obtain ⟨C, e1, e2, t1, t2, ⟨bmB, B', ni, ii, F, q⟩, t4, t5, t6⟩ := g.exc c _ _ hy
        refine (ss_raise0 (B := B) g tk F q t1 t4 (raises_own t5 t6) (glB_ h2) t2 e1 e2).conseq fun D σ H h => ?_
        obtain ⟨M, δ, s, ρ, F1, e0, st, lo, po⟩ := h
        refine ⟨M, δ, s, ρ, F1, e0, st, lo, ?_⟩
        simp only [exec, evalEs, Re.run] at po
        exact po
    · rename_i x a y f hx hy
      obtain ⟨p, p2, p3, rfl⟩ := sRais_ hx
      simp only [Bool.and_eq_true, decide_eq_true_eq] at h
      obtain ⟨⟨⟨rfl, h2⟩, h3⟩, h4⟩ := h
      cases es with
      | nil => cases h4
      | cons m es =>
        cases es with
        | cons _ _ => cases h4
        | nil =>
          have ha := snd_E g m a h4
          have conv : ∀ (D : Ends) (σ : L2.St) (H : Hp), tS X.K Z B n (.raisC c (.cons m .nil)) D σ H → tSt X.K Z B (fun s δ => (evalE Z.cf m δ s).run fun d s1 => .ex (.tup [.int (c : Int), d]) s1 δ) D σ H := fun D σ H h => by
            obtain ⟨M, δ, s, ρ, F1, e0, st, lo, po⟩ := h
            refine ⟨M, δ, s, ρ, F1, e0, st, lo, ?_⟩
            simp only [exec, evalEs] at po
            show PostS X.K Z B M ((evalE Z.cf m δ s).run fun d s1 => .ex (.tup [.int (c : Int), d]) s1 δ) D
            generalize evalE Z.cf m δ s = r at po ⊢
            cases r <;> exact po
          obtain ⟨C, e1, e2, t⟩ := g.exc c _ _ hy
          rcases t with ⟨rfl, qi, fI, T⟩ | ⟨rfl, qi, fI, T⟩ | ⟨rfl, qi, fI, T⟩
          · exact (ss_raise_at (B := B) g tk T (glB_ h2) h3 ha e1 e2).conseq fun D σ H h => conv D σ H h
          · exact (ss_raise_name (B := B) g tk T (glB_ h2) h3 ha e1 e2).conseq fun D σ H h => conv D σ H h
          · exact (ss_raise_wanted (B := B) g tk T (glB_ h2) h3 ha e1 e2).conseq fun D σ H h => conv D σ H h
    · cases h
theorem snd_Ss {X : Cx} {Z : Ev} {G : Gi} {k : Nat} (g : Gd X Z G k) (hfn : ∀ x, X.fn x = true) (hbk : X.env.blockKind = .function) (pas : PassesOwn (model X.prog X.w) X.A X.env X.xe) (tk : L2.Takes X Z.W) (hst : X.stack = X.env :: X.outer) (hfr : X.env.frame = some X.env.locals) (B : Bs) (n : Nat) : ∀ (ms : MSs) (sts : List Stmt), mSs G X.N X.env.scope ms sts = true → PSs X sts (tSs X.K Z B n ms)
  | .nil, [], _ => sss_nil g.toGdH n
  | .nil, _ :: _, h => by simp [mSs] at h
  | .cons m ms, [], h => by
    simp only [mSs, Bool.and_eq_true] at h
    obtain ⟨h1, h2⟩ := h
    cases m <;> first | cases h1 | skip
    exact sss_frz g.toGdH n (snd_Ss g hfn hbk pas tk hst hfr B n ms [] h2)
  | .cons m ms, st :: sts, h => by
    simp only [mSs] at h
    cases hz : isFrz m with
    | true =>
      rw [hz, if_pos rfl] at h
      cases m <;> first | cases hz | skip
      exact sss_frz g.toGdH n (snd_Ss g hfn hbk pas tk hst hfr B n ms (st :: sts) h)
    | false =>
      rw [hz, if_neg Bool.false_ne_true] at h
      simp only [Bool.and_eq_true] at h
      exact sss_cons g.toGdH n (snd_S g hfn hbk pas tk hst hfr B n m st hz h.1) (snd_Ss g hfn hbk pas tk hst hfr B n ms sts h.2)
end
end Mn
set_option Elab.async false
set_option linter.all false
set_option maxRecDepth 100000
set_option maxHeartbeats 4000000
/-! Whole defs, level by level; the law's end. -/
namespace Mn
open PySem L2 PyProof.Rows

def scB (N ps : List Str) (sc : Scope) : Bool :=
  decide (sc.kind = .function) && !sc.isCoroutine && !sc.isGenerator && decide N.Nodup && decide (N.take ps.length = ps) && ps.all (fun x => locB sc x) && sc.names.all (fun y => !decide (y.2 = .free))
theorem scB_ {N ps : List Str} {sc : Scope} (h : scB N ps sc = true) : FnScope N ps sc := by
  unfold scB at h
  simp only [Bool.and_eq_true, Bool.not_eq_true', decide_eq_true_eq, List.all_eq_true, decide_eq_false_iff_not] at h
  obtain ⟨⟨⟨⟨⟨⟨h1, h2⟩, h3⟩, h4⟩, h5⟩, h6⟩, h7⟩ := h
  exact ⟨h1, h2, h3, h4, h5, fun x hx => locB_ (h6 x hx), h7⟩
def dfC (G : Gi) (m : MFun) (st : Stmt) (N ps : List Str) : Bool :=
  scB N ps (defScope st) && decide (ps.length = m.np) && decide (N.length = m.ns) && mSs G N (defScope st) m.body (defBody st)

/-- a def of the text that is checked -/
structure DfB (K : PySem.W.Frag) (G : Gi) (m : MFun) (x q : Str) (a : Addr) (fd : FuncData) (ps : List Str) : Prop where
  bind : ∀ us : List Value, us.length = ps.length → bindArgs fd ⟨us, []⟩ = pure (ps.zip us)
  ex : ∃ st N, Fun K x q st a fd ∧ FnScope N ps (defScope st) ∧ ps.length = m.np ∧ N.length = m.ns ∧ mSs G N (defScope st) m.body (defBody st) = true
structure Df (K : PySem.W.Frag) (mg : Str → Option Value) (G : Gi) (m : MFun) (x : Str) (a : Addr) (fd : FuncData) (ps : List Str) : Prop where
  mgf : mg x = some (.ref a)
  df : DfB K G m x x a fd ps
theorem dfB_mk {K : PySem.W.Frag} {G : Gi} {m : MFun} {x q : Str} {st : Stmt} {N ps : List Str} {f : Addr} {oc : Value} {od an : Option Addr} {osl : Array (Option Value)} {kV doc pm cdv ct : Value}
    (l : K.lookup f = some ⟨oc, od, .func (PySem.W.fnOf x q (defArgs st) (defBody st) (defScope st) .none kV doc pm an cdv ct), osl⟩)
    (c : PySem.W.codeIn K cdv q = true) (k : PySem.W.keepIn K (.ref f) = true) (chk : dfC G m st N ps = true)
    (b : ∀ (kV doc pm : Value) (an : Option Addr) (cdv ct : Value) (us : List Value), us.length = ps.length → bindArgs (PySem.W.fnOf x q (defArgs st) (defBody st) (defScope st) .none kV doc pm an cdv ct) ⟨us, []⟩ = pure (ps.zip us)) :
    DfB K G m x q f (PySem.W.fnOf x q (defArgs st) (defBody st) (defScope st) .none kV doc pm an cdv ct) ps := by
  unfold dfC at chk
  simp only [Bool.and_eq_true, decide_eq_true_eq] at chk
  exact ⟨b kV doc pm an cdv ct, st, N, fun_mk l c k, scB_ chk.1.1.1, chk.1.1.2, chk.1.2, chk.2⟩
theorem df_mk {K : PySem.W.Frag} {mg : Str → Option Value} {G : Gi} {m : MFun} {x : Str} {st : Stmt} {N ps : List Str} {f : Addr} {oc : Value} {od an : Option Addr} {osl : Array (Option Value)} {kV doc pm cdv ct : Value} {h : Heap} (X : K.In h) (Gn : h.Ns mainGlobals mg)
    (hm : PySem.W.nsIn K mainGlobals x = some (some (.ref f))) (l : K.lookup f = some ⟨oc, od, .func (PySem.W.fnOf x x (defArgs st) (defBody st) (defScope st) .none kV doc pm an cdv ct), osl⟩)
    (c : PySem.W.codeIn K cdv x = true) (k : PySem.W.keepIn K (.ref f) = true) (chk : dfC G m st N ps = true)
    (b : ∀ (kV doc pm : Value) (an : Option Addr) (cdv ct : Value) (us : List Value), us.length = ps.length → bindArgs (PySem.W.fnOf x x (defArgs st) (defBody st) (defScope st) .none kV doc pm an cdv ct) ⟨us, []⟩ = pure (ps.zip us)) :
    Df K mg G m x f (PySem.W.fnOf x x (defArgs st) (defBody st) (defScope st) .none kV doc pm an cdv ct) ps :=
  ⟨PySem.W.mg_of X Gn hm, dfB_mk l c k chk b⟩
/-- the classes' addresses, by the names -/
def cmOf (K : PySem.W.Frag) (G : Gi) : List Addr := G.cl.map fun x => match PySem.W.nsIn K mainGlobals x with | some (some (.ref a)) => a | _ => 0
theorem cmOf_at {K : PySem.W.Frag} {G : Gi} {c : Nat} {x : Str} {C : Addr} (h : G.cl[c]? = some x) (e : PySem.W.nsIn K mainGlobals x = some (some (.ref C))) : (cmOf K G)[c]? = some C := by
  unfold cmOf
  rw [List.getElem?_map, h]
  simp only [Option.map_some, e]
/-- the exceptions' addresses, by the names -/
def xmOf (K : PySem.W.Frag) (G : Gi) : List Addr := G.xc.map fun p => match PySem.W.nsIn K mainGlobals p.1 with | some (some (.ref a)) => a | _ => 0
def xfOf (G : Gi) : List (List Str) := G.xc.map (·.2)
theorem xmOf_at {K : PySem.W.Frag} {G : Gi} {c : Nat} {x : Str} {fs : List Str} {C : Addr} (h : G.xc[c]? = some (x, fs)) (e : PySem.W.nsIn K mainGlobals x = some (some (.ref C))) : (xmOf K G)[c]? = some C ∧ (xfOf G)[c]? = some fs := by
  unfold xmOf xfOf
  rw [List.getElem?_map, List.getElem?_map, h]
  simp only [Option.map_some, e, and_self]
/-- what the module holds -/
structure ModOk (K : PySem.W.Frag) (mg : Str → Option Value) (G : Gi) (P : Pg) : Prop where
  fn : ∀ (f : Nat) (x : Str), G.fn[f]? = some x → ∃ m a fd ps, P.funs[f]? = some m ∧ Df K mg G m x a fd ps
  bl : ∀ x, G.bl.contains x = true → mg x = none
  cs : ∀ p ∈ G.cs, ∃ u v, mg p.1 = some u ∧ RelV v u ∧ ∀ ρ F, RepD K ρ F v p.2
  cl : ∀ (c : Nat) (x : Str), G.cl[c]? = some x → ∃ C, (cmOf K G)[c]? = some C ∧ mg x = some (.ref C) ∧ Mk0 K C
  mt : ∀ p ∈ G.mt, ∃ C a fd ps m y q, (cmOf K G)[p.1]? = some C ∧ P.funs[p.2.2]? = some m ∧ Cls K C ∧ Meth K C p.2.1 a ∧ DfB K G m y q a fd ps
  ic : ∀ p ∈ G.ic, ∃ C D, (cmOf K G)[p.1]? = some C ∧ mg p.2.1 = some (.ref D) ∧ InsT K C ∧ PySem.W.kitOne K (.ref C) (.ref D) = some p.2.2
  xc : ∀ (c : Nat) (x : Str) (fs : List Str), G.xc[c]? = some (x, fs) → ∃ C, (xmOf K G)[c]? = some C ∧ (xfOf G)[c]? = some fs ∧ RaisT K mg C x fs
  xs : ∀ p ∈ G.xs, ∃ C vv v, RelV vv v ∧ (∀ u, RelV vv u → u = v) ∧ (xmOf K G)[p.2.1]? = some C ∧ (mg p.1 = some v ∨ (mg p.1 = none ∧ bootBuiltins p.1 = some v ∧ p.1 ≠ "__name__")) ∧ PySem.W.exmOne K (.ref C) v = some p.2.2 ∧ PySem.W.kitOne K (.ref C) v = some p.2.2 ∧ ExcC K C

/-- where the run tells an answer, nothing is let out -/
theorem FnOk.quiet {prog : Program} {w : World} {K : PySem.W.Frag} {mg : Str → Option Value} {base : Heap} {k : Nat} {f : Addr} {fd : FuncData} {ps : List Str} {cm : List Addr} {nm : List Str} {xm : List Addr} {xf : List (List Str)} {cf : Nat → List D → Sto → Re O} {np n : Nat}
    (F : FnOk prog w K mg base (L2.CX prog w) k f fd ps (spX K cm nm xm xf cf np n)) : FnOk prog w K mg base CX0 k f fd ps (spI K cm nm cf np n) := by
  have key : ∀ vs H Q E, spI K cm nm cf np n vs H Q E → spX K cm nm xm xf cf np n vs H Q (fun _ _ _ => False) := fun vs H Q E h => by
    obtain ⟨ρ, F, s, ds, h1, h2, h3, h4⟩ := h
    refine ⟨ρ, F, s, ds, h1, h2, h3, ?_⟩
    revert h4
    cases cf n ds s with
    | ok a s1 => exact fun h => h
    | ex x s1 => exact fun h => h.elim
    | no => exact fun h => h.elim
  refine ⟨fun vs H Q E h => F.len vs H Q _ (key vs H Q E h), fun A outer s H args us vs Q E hr he hb hv hs => codeAny_mono (F.run A outer s H args us vs Q _ hr he hb hv (key vs H Q E hs)) fun r s' h => ?_⟩
  cases r with
  | ok v => cases v <;> exact h
  | error e =>
    obtain ⟨_, _, _, _, _, _, _, _, _, _, _, _, z⟩ := h
    exact z.elim
section
variable {prog : Program} {w : World} {K : PySem.W.Frag} {mg : Str → Option Value} {base : Heap} {G : Gi} {P : Pg}
theorem all_ok (M : ModOk K mg G P) :
    ∀ (k f : Nat) (m : MFun) (x q : Str) (a : Addr) (fd : FuncData) (ps : List Str), P.funs[f]? = some m → DfB K G m x q a fd ps → FnOk prog w K mg base (L2.CX prog w) (3 * k) a fd ps (spX K (cmOf K G) G.nm (xmOf K G) (xfOf G) (call P k) ps.length f)
  | 0, f, m, x, q, a, fd, ps, hm, D => ⟨fun vs H Q E h => by
      obtain ⟨ρ, F, s, ds, hl, _⟩ := h
      exact hl, fun A outer s H args us vs Q E hr e0 hb r hsp => by
      obtain ⟨ρ, F, s, ds, hl, st, rp, po⟩ := hsp
      simp only [call] at po
      exact po.elim⟩
  | k + 1, f, m, x, q, a, fd, ps, hm, D => by
    obtain ⟨st, N, F, S, h1, h2, h3⟩ := D.ex
    show FnOk prog w K mg base (L2.CX prog w) (3 * k + 2 + 1) a fd ps _
    refine F.okX S (fun vs H Q E h => ?_) fun cdv A outer s H vs Q E hr hsp => ?_
    · obtain ⟨ρ, F, s, ds, hl, _⟩ := h
      exact hl
    · obtain ⟨ρ, F0, s0, ds, hl, st0, rp, po⟩ := hsp
      have arity : ∀ (f' : Nat) (m' : MFun) (ps' : List Str), P.funs[f']? = some m' → ps'.length = m'.np → ∀ (ds : List Mn.D) (s : Sto), ds.length ≠ ps'.length → call P k f' ds s = .no := fun f' m' ps' hm' hl' ds s hne => by
        cases k with
        | zero => simp only [call]
        | succ k =>
          simp only [call, hm']
          rw [if_neg (by rw [← hl']; exact hne)]
      have g : Gd (cxOf (L2.CX prog w) prog w K mg base N q (defScope st) a cdv A outer s H E) ⟨cmOf K G, G.nm, call P k, H, xmOf K G, xfOf G, fun cls d _ H => E cls d H, none⟩ G (3 * k) := by
        have hfn : ∀ f' x', G.fn[f']? = some x' → ∃ a fd ps, mg x' = some (.ref a) ∧ PySem.W.keepIn K (.ref a) = true ∧ Binds K fd ps [] ∧ FnOk prog w K mg base (L2.CX prog w) (3 * k) a fd ps (spX K (cmOf K G) G.nm (xmOf K G) (xfOf G) (call P k) ps.length f') ∧ ∀ ds s, ds.length ≠ ps.length → call P k f' ds s = .no := fun f' x' hf' => by
          obtain ⟨m', a', fd', ps', hm', D'⟩ := M.fn f' x' hf'
          obtain ⟨st', N', F', S', h1', h2', h3'⟩ := D'.df.ex
          exact ⟨a', fd', ps', D'.mgf, F'.kp, .all D'.df.bind, all_ok M k f' m' x' x' a' fd' ps' hm' D'.df, arity f' m' ps' hm' h1'⟩
        refine { nd := S.nd, calm := rfl, nohx := rfl, hu := hr.units, room := hr.mono (by omega), room2 := hr, bl := M.bl, cs := M.cs, fn := fun f' x' hf' => (let ⟨a', fd', ps', e1, e2, e3, e4, e5⟩ := hfn f' x' hf'; ⟨a', fd', ps', e1, e2, e3, FnOk.quiet e4, e5⟩), fnx := hfn, nms := rfl, cls := M.cl, mth := fun c x' f' hmt => (by
          obtain ⟨C, a', fd', ps', m', y', q', e1, e2, e3, e4, D'⟩ := M.mt _ hmt
          obtain ⟨st', N', F', S', h1', h2', h3'⟩ := D'.ex
          exact ⟨C, a', fd', ps', e1, e3, e4, .all D'.bind, FnOk.quiet (all_ok M k f' m' y' q' a' fd' ps' e2 D'), arity f' m' ps' e2 h1'⟩), isi := fun c x' b hi => M.ic _ hi, exc := M.xc, xs := M.xs, xf2 := fun c fs h => (by
          have h : (G.xc.map (·.2))[c]? = some fs := h
          rw [List.getElem?_map, Option.map_eq_some_iff] at h
          obtain ⟨⟨x, fs'⟩, h1, rfl⟩ := h
          exact ⟨x, h1⟩) }
      refine ⟨_, snd_Ss (X := (cxOf (L2.CX prog w) prog w K mg base N q (defScope st) a cdv A outer s H E)) g (fun _ => rfl) (by show (if (defScope st).kind.isAnnotationScope then ScopeKind.function else (defScope st).kind) = _; rw [S.kind]; rfl) (L2.passes_of (X := cxOf (L2.CX prog w) prog w K mg base N q (defScope st) a cdv A outer s H E) rfl) (L2.takes_of (X := cxOf (L2.CX prog w) prog w K mg base N q (defScope st) a cdv A outer s H E) rfl rfl rfl rfl) rfl rfl ⟨ρ, F0, s0⟩ P.N m.body (defBody st) h3, ⟨ρ, F0, s0⟩, ds.map (fun d => some (.v d)) ++ List.replicate (m.ns - m.np) none, s0, ρ, F0, ⟨Ext.refl _ _ _ _, List.prefix_refl _, Same.refl _⟩, st0, ?_, ?_⟩
      · have hld : ds.length = vs.length := rp.length.symm
        have hlen : vs.length ≤ N.length := by
          have := congrArg List.length S.pre
          rw [List.length_take] at this
          omega
        refine ⟨fun _ => 0, ?_, fun i d h => ?_, fun i xs h => ?_, fun i c vs h => ?_, fun i j xs ys h => ?_⟩
        · unfold L2.start
          simp only [List.length_append, List.length_map, List.length_replicate]
          omega
        · by_cases hi : i < ds.length
          · rw [List.getElem?_append_left (by simpa using hi), List.getElem?_map] at h
            obtain ⟨e, he, hz⟩ := Option.map_eq_some_iff.mp h
            cases hz
            obtain ⟨v, hv, r⟩ := rp.get he
            refine ⟨v, ?_, r⟩
            unfold L2.start
            rw [List.getElem?_append_left (by simpa [← hld] using hi), List.getElem?_map, hv]
            rfl
          · rw [List.getElem?_append_right (by simpa using hi), List.getElem?_replicate] at h
            split at h <;> cases h
        · exfalso
          by_cases hi : i < ds.length
          · rw [List.getElem?_append_left (by simpa using hi), List.getElem?_map] at h
            obtain ⟨e, he, hz⟩ := Option.map_eq_some_iff.mp h
            cases hz
          · rw [List.getElem?_append_right (by simpa using hi), List.getElem?_replicate] at h
            split at h <;> cases h
        · exfalso
          by_cases hi : i < ds.length
          · rw [List.getElem?_append_left (by simpa using hi), List.getElem?_map] at h
            obtain ⟨e, he, hz⟩ := Option.map_eq_some_iff.mp h
            cases hz
          · rw [List.getElem?_append_right (by simpa using hi), List.getElem?_replicate] at h
            split at h <;> cases h
        · exfalso
          by_cases hi : i < ds.length
          · rw [List.getElem?_append_left (by simpa using hi), List.getElem?_map] at h
            obtain ⟨e, he, hz⟩ := Option.map_eq_some_iff.mp h
            cases hz
          · rw [List.getElem?_append_right (by simpa using hi), List.getElem?_replicate] at h
            split at h <;> cases h
      · have hld : ds.length = m.np := by rw [← h1, ← hl]; exact rp.length.symm
        simp only [call, hm] at po
        rw [if_pos hld] at po
        show PostS K ⟨cmOf K G, G.nm, call P k, H, xmOf K G, xfOf G, fun cls d _ H => E cls d H, none⟩ ⟨ρ, F0, s0⟩ ⟨ρ, F0, s0⟩ (execs (call P k) P.N m.body s0 (ds.map (fun d => some (.v d)) ++ List.replicate (m.ns - m.np) none)) { nx := fun _ H' => Q .non H', rt := Q }
        revert po
        generalize execs (call P k) P.N m.body s0 (ds.map (fun d => some (.v d)) ++ List.replicate (m.ns - m.np) none) = r
        intro po
        cases r with
        | no => exact po.elim
        | nx s1 δ1 => exact fun σ ρ1 F1 H1 e1 st1 lo1 => po _ ρ1 F1 H1 e1.ext st1 .non
        | bk s1 δ1 => exact po.elim
        | ct s1 δ1 => exact po.elim
        | ret o s1 => exact fun v ρ1 F1 H1 e1 st1 r1 => po v ρ1 F1 H1 e1.ext st1 r1
        | ex x s1 δ1 => exact fun σ ρ1 F1 H1 cls d e1 st1 lo1 x1 => po ρ1 F1 H1 cls d e1.ext st1 x1
end
theorem rep_ints {K : PySem.W.Frag} {ρ : List Addr} {F : Hp} : ∀ ns : List Int, RepL K ρ F (ns.map V.int) (intL ns)
  | [] => .nil
  | n :: ns => .cons (.int n) (rep_ints ns)
/-- the law's end -/
theorem walk {l : PySem.W.OpenLaw} {q : Program} {loose : List Str} {XP : (Str → Option Value) → Heap → Prop} {YP : World → Heap → Prop} {d : DefRec} {K : Params → PySem.W.Frag} {P : Pg} {G : Gi} {f k : Nat} {x : Str} (hn : l.most = some 63) (hdf : d.params.defaults = [])
    (hr : Room (3 * k) callerA) (hY : ∀ (w : World) (h : Heap), YP w h → (K w.params).In h)
    (hlaw : ∀ ns : List Int, ns.length ≤ 63 → ∃ s, call P k f [.lst (intL ns)] ⟨[], 0⟩ = .ok (.v (.bl true)) s)
    (F : ∀ (w : World) (mg : Str → Option Value) (fa : Addr) (h : Heap), (K w.params).In h → h.Ns mainGlobals mg → mg d.name = some (.ref fa) →
      ModOk (K w.params) mg G P ∧ ∃ m fd, P.funs[f]? = some m ∧ Df (K w.params) mg G m d.name fa fd [x]) :
    PySem.W.WalkO q loose XP YP l.row.toRowW d [] (fun f vs => PySem.call f vs) := by
  refine L2.walk_of (n := 63) (k := 3 * k) (x := x) (CX := fun _ => CX0) (sp := fun w => spI (K w.params) (cmOf (K w.params) G) G.nm (call P k) 1 f) hn (by decide) hdf hr hY (fun w mg fa h KX Gn hmg => ?_) (fun w H a ns hl hO hS => ?_) fun _ _ _ _ _ z => z
  · obtain ⟨h1, m, fd, h4, h5⟩ := F w mg fa h KX Gn hmg
    exact ⟨fd, fun s u => .of_eq (h5.df.bind [u] rfl), fun base _ _ => FnOk.quiet (all_ok h1 k f m _ _ fa fd [x] h4 h5.df)⟩
  · obtain ⟨s, hs⟩ := hlaw ns hl
    refine ⟨[], H, ⟨[], 0⟩, [.lst (intL ns)], rfl, ⟨Same.refl _, rfl, fun n a c h => by simp at h, fun a h => by simp at h, List.nodup_nil⟩, .cons (.lst hS (rep_ints ns)) .nil, ?_⟩
    rw [hs]
    intro b ρ' F' H' e st r
    cases r
    rfl
end Mn
set_option Elab.async false
set_option linter.all false
set_option maxRecDepth 100000
set_option maxHeartbeats 4000000
/-! What a module must say of its exceptions. -/
namespace Mn
open PySem L2 PyProof.Rows PySem.W
section
variable {K : Frag} {mg : Str → Option Value} {x : Str} {C D : Addr} {b : Bool}
theorem exm_sub (eD : subIn K (.ref D) (.type "BaseException") = some true) (hD : hasDictIn K D = true) (tD : typeIn K (.ref D) = some (.type "type")) (q : subIn K (.ref C) (.ref D) = some b) : exmOne K (.ref C) (.ref D) = some b := exm_ref eD hD tD q
theorem kit_sub (hD : hasDictIn K D = true) (tD : typeIn K (.ref D) = some (.type "type")) (sD : subIn K (.ref D) (.ref D) = some true) (q : subIn K (.ref C) (.ref D) = some b) : kitOne K (.ref C) (.ref D) = some b := by
  unfold kitOne
  split
  · rename_i e
    have : C = D := by simpa using e
    subst this
    rw [sD] at q
    exact q
  · unfold kitCls
    obtain ⟨cd, hc, _⟩ := any_some hD
    dsimp only
    rw [hc, tD]
    simpa using q
theorem exm_ve (e : subIn K (.type "ValueError") (.type "BaseException") = some true) (q : subIn K (.ref C) (.type "ValueError") = some b) : exmOne K (.ref C) (.type "ValueError") = some b := by
  unfold exmOne
  have e1 : (subIn K (.type "ValueError") (.type "BaseException") == some true) = true := by rw [e]; rfl
  rw [if_pos e1]
  unfold kitCls
  have e2 : kitMeta "ValueError" = true := by decide +kernel
  dsimp only
  rw [if_pos e2]
  exact q
theorem kit_ve (q : subIn K (.ref C) (.type "ValueError") = some b) : kitOne K (.ref C) (.type "ValueError") = some b := by
  unfold kitOne
  have e0 : ¬ (Value.ref C == Value.type "ValueError") = true := by simp
  rw [if_neg e0]
  unfold kitCls
  have e2 : kitMeta "ValueError" = true := by decide +kernel
  dsimp only
  rw [if_pos e2]
  exact q
theorem rel_ref (a : Addr) : ∀ u, RelV (.ref a) u → u = Value.ref a := fun _ h => h
theorem rel_ty (n : String) : ∀ u, RelV (.ty n) u → u = Value.type n := fun _ h => h
theorem raisT_0 (gC : mg x = some (.ref C)) (hd : (x == ("__debug__" : Str)) = false) (q : excIn K C [.type "ValueError", .type "Exception", .type "BaseException", .type "object"] "ValueError.__new__" = true) (k : keepIn K (.ref C) = true) (e : subIn K (.ref C) (.type "BaseException") = some true) (t : typeIn K (.ref C) = some (.type "type")) : RaisT K mg C x [] :=
  ⟨gC, hd, ⟨_, _, _, _, PySem.F.excBase_ValueError, q⟩, k, e, t⟩
theorem raisT_at {qi : Str} {fI : Addr} (T : PySem.OwnX_at.LowTxt K mg x qi C fI) : RaisT K mg C x ["at"] := .inl ⟨rfl, _, _, T⟩
theorem raisT_name {qi : Str} {fI : Addr} (T : PySem.OwnX_name.LowTxt K mg x qi C fI) : RaisT K mg C x ["name"] := .inr (.inl ⟨rfl, _, _, T⟩)
theorem raisT_wanted {qi : Str} {fI : Addr} (T : PySem.OwnX_wanted.LowTxt K mg x qi C fI) : RaisT K mg C x ["wanted"] := .inr (.inr ⟨rfl, _, _, T⟩)
def XsP (K : Frag) (mg : Str → Option Value) (G : Gi) (p : Str × Nat × Bool) : Prop := ∃ C vv v, RelV vv v ∧ (∀ u, RelV vv u → u = v) ∧ (xmOf K G)[p.2.1]? = some C ∧ (mg p.1 = some v ∨ (mg p.1 = none ∧ bootBuiltins p.1 = some v ∧ p.1 ≠ "__name__")) ∧ exmOne K (.ref C) v = some p.2.2 ∧ kitOne K (.ref C) v = some p.2.2 ∧ ExcC K C
theorem xs_nil {G : Gi} : ∀ q ∈ ([] : List (Str × Nat × Bool)), XsP K mg G q := fun _ h => nomatch h
theorem xs_cons {G : Gi} {p : Str × Nat × Bool} {l : List (Str × Nat × Bool)} (h : XsP K mg G p) (t : ∀ q ∈ l, XsP K mg G q) : ∀ q ∈ p :: l, XsP K mg G q := fun q hq => (List.mem_cons.mp hq).elim (fun e => e ▸ h) (t q)
theorem xs_app {G : Gi} {l m : List (Str × Nat × Bool)} (h : ∀ q ∈ l, XsP K mg G q) (t : ∀ q ∈ m, XsP K mg G q) : ∀ q ∈ l ++ m, XsP K mg G q := fun q hq => (List.mem_append.mp hq).elim (h q) (t q)
end
end Mn
set_option Elab.async false
set_option linter.all false
set_option maxRecDepth 100000
set_option maxHeartbeats 4000000
/-! Reasoning about runs of the small language. -/
namespace Mn
open PySem L2 PyProof.Rows

def satF {α : Type} (r : Re α) (Q : α → Sto → Prop) : Prop := match r with | .ok a s => Q a s | _ => False
/-- a run ends well (a structure: nothing looks into it by computing) -/
structure sat {α : Type} (r : Re α) (Q : α → Sto → Prop) : Prop where
  out : satF r Q
structure En where
  nx : Sto → Lcs → Prop
  bk : Sto → Lcs → Prop
  ct : Sto → Lcs → Prop
  rt : O → Sto → Prop
  ex : D → Sto → Lcs → Prop := fun _ _ _ => False
def wpF (r : Rs) (E : En) : Prop := match r with | .nx s δ => E.nx s δ | .bk s δ => E.bk s δ | .ct s δ => E.ct s δ | .ret o s => E.rt o s | .ex x s δ => E.ex x s δ | .no => False
structure wp (r : Rs) (E : En) : Prop where
  out : wpF r E
theorem wp_nx {s : Sto} {δ : Lcs} {E : En} : wp (.nx s δ) E = E.nx s δ := propext ⟨fun h => h.out, fun h => ⟨h⟩⟩
theorem wp_bk {s : Sto} {δ : Lcs} {E : En} : wp (.bk s δ) E = E.bk s δ := propext ⟨fun h => h.out, fun h => ⟨h⟩⟩
theorem wp_ct {s : Sto} {δ : Lcs} {E : En} : wp (.ct s δ) E = E.ct s δ := propext ⟨fun h => h.out, fun h => ⟨h⟩⟩
theorem wp_ret {o : O} {s : Sto} {E : En} : wp (.ret o s) E = E.rt o s := propext ⟨fun h => h.out, fun h => ⟨h⟩⟩
theorem wp_no {E : En} : wp .no E = False := propext ⟨fun h => h.out, fun h => h.elim⟩
theorem wp_ex {x : D} {s : Sto} {δ : Lcs} {E : En} : wp (.ex x s δ) E = E.ex x s δ := propext ⟨fun h => h.out, fun h => ⟨h⟩⟩
def lft {α : Type} (o : Option α) (Q : α → Prop) : Prop := match o with | some a => Q a | none => False

section
variable {α β : Type}
theorem sat_ok {a : α} {s : Sto} {Q : α → Sto → Prop} : sat (.ok a s) Q = Q a s := propext ⟨fun h => h.out, fun h => ⟨h⟩⟩
theorem sat_exx {a : D} {s : Sto} {Q : α → Sto → Prop} : sat (.ex a s : Re α) Q = False := propext ⟨fun h => h.out, fun h => h.elim⟩
theorem sat_no {Q : α → Sto → Prop} : sat (.no : Re α) Q = False := propext ⟨fun h => h.out, fun h => h.elim⟩
theorem sat_bind {r : Re α} {f : α → Sto → Re β} {Q : β → Sto → Prop} : sat (r.bind f) Q = sat r fun a s => sat (f a s) Q := by cases r <;> (first | rfl | (simp only [sat_ok, sat_no, sat_exx, wp_nx, wp_bk, wp_ct, wp_ret, wp_no, wp_ex, Re.bind, Re.run, lift, lft]; done) | (simp only [sat_ok, sat_no, sat_exx, wp_nx, wp_bk, wp_ct, wp_ret, wp_no, wp_ex, Re.bind, Re.run, lift, lft]; rfl))
theorem sat_lift {o : Option α} {s : Sto} {Q : α → Sto → Prop} : sat (lift o s) Q = lft o fun a => Q a s := by cases o <;> (first | rfl | (simp only [sat_ok, sat_no, sat_exx, wp_nx, wp_bk, wp_ct, wp_ret, wp_no, wp_ex, Re.bind, Re.run, lift, lft]; done) | (simp only [sat_ok, sat_no, sat_exx, wp_nx, wp_bk, wp_ct, wp_ret, wp_no, wp_ex, Re.bind, Re.run, lift, lft]; rfl))
theorem sat_ite {c : Prop} [Decidable c] {a b : Re α} {Q : α → Sto → Prop} : sat (if c then a else b) Q = if c then sat a Q else sat b Q := by split <;> (first | rfl | (simp only [sat_ok, sat_no, sat_exx, wp_nx, wp_bk, wp_ct, wp_ret, wp_no, wp_ex, Re.bind, Re.run, lift, lft]; done) | (simp only [sat_ok, sat_no, sat_exx, wp_nx, wp_bk, wp_ct, wp_ret, wp_no, wp_ex, Re.bind, Re.run, lift, lft]; rfl))
theorem sat_run {r : Re α} {f : α → Sto → Rs} {E : En} : wp (r.run f) E = sat r fun a s => wp (f a s) E := by cases r <;> (first | rfl | (simp only [sat_ok, sat_no, sat_exx, wp_nx, wp_bk, wp_ct, wp_ret, wp_no, wp_ex, Re.bind, Re.run, lift, lft]; done) | (simp only [sat_ok, sat_no, sat_exx, wp_nx, wp_bk, wp_ct, wp_ret, wp_no, wp_ex, Re.bind, Re.run, lift, lft]; rfl))
theorem lft_some {a : α} {Q : α → Prop} : lft (some a) Q = Q a := rfl
theorem lft_none {Q : α → Prop} : lft none Q = False := rfl
theorem lft_ite {c : Prop} [Decidable c] {a b : Option α} {Q : α → Prop} : lft (if c then a else b) Q = if c then lft a Q else lft b Q := by split <;> (first | rfl | (simp only [sat_ok, sat_no, sat_exx, wp_nx, wp_bk, wp_ct, wp_ret, wp_no, wp_ex, Re.bind, Re.run, lift, lft]; done) | (simp only [sat_ok, sat_no, sat_exx, wp_nx, wp_bk, wp_ct, wp_ret, wp_no, wp_ex, Re.bind, Re.run, lift, lft]; rfl))
theorem lft_iteN {c : Prop} [Decidable c] {a : Option α} {Q : α → Prop} : lft (if c then a else none) Q = (c ∧ lft a Q) := by
  by_cases h : c
  · rw [if_pos h]; simp [h]
  · rw [if_neg h]; simp [h, lft_none]
theorem lft_map {o : Option α} {f : α → β} {Q : β → Prop} : lft (o.map f) Q = lft o fun a => Q (f a) := by cases o <;> (first | rfl | (simp only [sat_ok, sat_no, sat_exx, wp_nx, wp_bk, wp_ct, wp_ret, wp_no, wp_ex, Re.bind, Re.run, lift, lft]; done) | (simp only [sat_ok, sat_no, sat_exx, wp_nx, wp_bk, wp_ct, wp_ret, wp_no, wp_ex, Re.bind, Re.run, lift, lft]; rfl))
theorem lft_bind {o : Option α} {f : α → Option β} {Q : β → Prop} : lft (o.bind f) Q = lft o fun a => lft (f a) Q := by cases o <;> (first | rfl | (simp only [sat_ok, sat_no, sat_exx, wp_nx, wp_bk, wp_ct, wp_ret, wp_no, wp_ex, Re.bind, Re.run, lift, lft]; done) | (simp only [sat_ok, sat_no, sat_exx, wp_nx, wp_bk, wp_ct, wp_ret, wp_no, wp_ex, Re.bind, Re.run, lift, lft]; rfl))
theorem sat_mono {r : Re α} {Q Q' : α → Sto → Prop} (h : sat r Q) (k : ∀ a s, Q a s → Q' a s) : sat r Q' := ⟨by have := h.out; cases r <;> first | exact k _ _ this | exact this⟩
theorem lft_mono {o : Option α} {Q Q' : α → Prop} (h : lft o Q) (k : ∀ a, Q a → Q' a) : lft o Q' := by cases o <;> first | exact k _ h | exact h
theorem sat_ex {r : Re α} {Q : α → Sto → Prop} (h : sat r Q) : ∃ a s, r = .ok a s ∧ Q a s := by have := h.out; cases r <;> first | exact ⟨_, _, rfl, this⟩ | exact this.elim
theorem lft_ex {o : Option α} {Q : α → Prop} (h : lft o Q) : ∃ a, o = some a ∧ Q a := by cases o <;> first | exact ⟨_, rfl, h⟩ | exact h.elim
theorem lft_in {o : Option α} {a : α} {Q : α → Prop} (h : o = some a) (q : Q a) : lft o Q := by rw [h]; exact q
theorem wp_mono {r : Rs} {E E' : En} (h : wp r E) (h1 : ∀ s δ, E.nx s δ → E'.nx s δ) (h2 : ∀ s δ, E.bk s δ → E'.bk s δ) (h3 : ∀ s δ, E.ct s δ → E'.ct s δ) (h4 : ∀ o s, E.rt o s → E'.rt o s) (h5 : ∀ x s δ, E.ex x s δ → E'.ex x s δ := by first | exact fun _ _ _ h => h | exact fun _ _ _ h => h.elim) : wp r E' := ⟨by
  have := h.out
  cases r <;> first | exact h1 _ _ this | exact h2 _ _ this | exact h3 _ _ this | exact h4 _ _ this | exact h5 _ _ _ this | exact this⟩
end

section
variable {cf : Nat → List D → Sto → Re O} {δ : Lcs} {s : Sto} {Q : D → Sto → Prop} {QL : List D → Sto → Prop} {QB : Bool → Sto → Prop} {QO : O → Sto → Prop} {QP : Option Int → Sto → Prop} {QW : Wk → Sto → Prop}
def slot (δ : Lcs) (i : Nat) (Q : D → Prop) : Prop := match δ[i]? with | some (some (.v d)) => Q d | _ => False
def slotO (δ : Lcs) (i : Nat) (Q : List D → Prop) : Prop := match δ[i]? with | some (some (.l d)) => Q d | _ => False
theorem slot_0 {d : D} {δ : Lcs} {Q : D → Prop} : slot (some (.v d) :: δ) 0 Q = Q d := rfl
theorem slot_s {o : Option O} {i : Nat} {Q : D → Prop} : slot (o :: δ) (i + 1) Q = slot δ i Q := by unfold slot; rw [List.getElem?_cons_succ]
theorem slotO_0 {d : List D} {δ : Lcs} {Q : List D → Prop} : slotO (some (.l d) :: δ) 0 Q = Q d := rfl
theorem slotO_s {o : Option O} {i : Nat} {Q : List D → Prop} : slotO (o :: δ) (i + 1) Q = slotO δ i Q := by unfold slotO; rw [List.getElem?_cons_succ]
theorem e_int {i : Int} : sat (evalE cf (.int i) δ s) Q = Q (.int i) s := by simp only [evalE]; (first | rfl | (simp only [sat_ok, sat_no, sat_exx, wp_nx, wp_bk, wp_ct, wp_ret, wp_no, wp_ex, Re.bind, Re.run, lift, lft]; done) | (simp only [sat_ok, sat_no, sat_exx, wp_nx, wp_bk, wp_ct, wp_ret, wp_no, wp_ex, Re.bind, Re.run, lift, lft]; rfl))
theorem e_str {z : List Nat} : sat (evalE cf (.str z) δ s) Q = Q (.str z) s := by simp only [evalE]; (first | rfl | (simp only [sat_ok, sat_no, sat_exx, wp_nx, wp_bk, wp_ct, wp_ret, wp_no, wp_ex, Re.bind, Re.run, lift, lft]; done) | (simp only [sat_ok, sat_no, sat_exx, wp_nx, wp_bk, wp_ct, wp_ret, wp_no, wp_ex, Re.bind, Re.run, lift, lft]; rfl))
theorem e_non : sat (evalE cf .non δ s) Q = Q .non s := by simp only [evalE]; (first | rfl | (simp only [sat_ok, sat_no, sat_exx, wp_nx, wp_bk, wp_ct, wp_ret, wp_no, wp_ex, Re.bind, Re.run, lift, lft]; done) | (simp only [sat_ok, sat_no, sat_exx, wp_nx, wp_bk, wp_ct, wp_ret, wp_no, wp_ex, Re.bind, Re.run, lift, lft]; rfl))
theorem e_bl {b : Bool} : sat (evalE cf (.bl b) δ s) Q = Q (.bl b) s := by simp only [evalE]; (first | rfl | (simp only [sat_ok, sat_no, sat_exx, wp_nx, wp_bk, wp_ct, wp_ret, wp_no, wp_ex, Re.bind, Re.run, lift, lft]; done) | (simp only [sat_ok, sat_no, sat_exx, wp_nx, wp_bk, wp_ct, wp_ret, wp_no, wp_ex, Re.bind, Re.run, lift, lft]; rfl))
theorem e_gc {x : Str} {d : D} : sat (evalE cf (.gc x d) δ s) Q = Q d s := by simp only [evalE]; (first | rfl | (simp only [sat_ok, sat_no, sat_exx, wp_nx, wp_bk, wp_ct, wp_ret, wp_no, wp_ex, Re.bind, Re.run, lift, lft]; done) | (simp only [sat_ok, sat_no, sat_exx, wp_nx, wp_bk, wp_ct, wp_ret, wp_no, wp_ex, Re.bind, Re.run, lift, lft]; rfl))
theorem e_var {i : Nat} : sat (evalE cf (.var i) δ s) Q = slot δ i fun d => Q d s := by
  simp only [evalE]; unfold slot; rcases hd : δ[i]? with _ | (_ | (d | xs)) <;> (first | rfl | (simp only [sat_ok, sat_no, sat_exx, wp_nx, wp_bk, wp_ct, wp_ret, wp_no, wp_ex, Re.bind, Re.run, lift, lft]; done) | (simp only [sat_ok, sat_no, sat_exx, wp_nx, wp_bk, wp_ct, wp_ret, wp_no, wp_ex, Re.bind, Re.run, lift, lft]; rfl))
theorem e_bin {o : MB} {a b : ME} : sat (evalE cf (.bin o a b) δ s) Q = sat (evalE cf a δ s) fun x s1 => sat (evalE cf b δ s1) fun y s2 => lft (binD o x y) fun z => Q z s2 := by
  simp only [evalE, sat_bind, sat_lift]
def negD : D → Option D | .int i => some (.int (-i)) | _ => none
theorem e_neg {a : ME} : sat (evalE cf (.neg a) δ s) Q = sat (evalE cf a δ s) fun x s1 => lft (negD x) fun z => Q z s1 := by
  simp only [evalE, sat_bind]
  congr 1; funext x s1; cases x <;> (first | rfl | (simp only [sat_ok, sat_no, sat_exx, wp_nx, wp_bk, wp_ct, wp_ret, wp_no, wp_ex, Re.bind, Re.run, lift, lft]; done) | (simp only [sat_ok, sat_no, sat_exx, wp_nx, wp_bk, wp_ct, wp_ret, wp_no, wp_ex, Re.bind, Re.run, lift, lft]; rfl))
theorem e_cmp {o : MC} {a b : ME} : sat (evalE cf (.cmp o a b) δ s) Q = sat (evalE cf a δ s) fun x s1 => sat (evalE cf b δ s1) fun y s2 => lft (cmpD o s2 x y) fun z => Q (.bl z) s2 := by
  simp only [evalE, sat_bind, sat_lift, lft_map]
theorem e_chain {o p : MC} {a b c : ME} : sat (evalE cf (.chain o p a b c) δ s) Q = sat (evalE cf a δ s) fun x s1 => sat (evalE cf b δ s1) fun y s2 => lft (cmpD o s2 x y) fun k => if k = true then sat (evalE cf c δ s2) fun z s4 => lft (cmpD p s4 y z) fun r => Q (.bl r) s4 else Q (.bl false) s2 := by
  simp only [evalE, sat_bind, sat_lift, lft_map, sat_ite, sat_ok]
theorem e_and {es : MEs} : sat (evalE cf (.andL es) δ s) Q = sat (evalAnd cf es δ s) Q := by simp only [evalE]
theorem e_or {es : MEs} : sat (evalE cf (.orL es) δ s) Q = sat (evalOr cf es δ s) Q := by simp only [evalE]
theorem e_not {a : ME} : sat (evalE cf (.notE a) δ s) Q = sat (evalE cf a δ s) fun x s1 => lft (truth s1 x) fun b => Q (.bl (!b)) s1 := by
  simp only [evalE, sat_bind, sat_lift, lft_map]
theorem e_ife {c : MQ} {a b : ME} : sat (evalE cf (.ife c a b) δ s) Q = sat (evalT cf c δ s) fun k s1 => if k = true then sat (evalE cf a δ s1) Q else sat (evalE cf b δ s1) Q := by
  simp only [evalE, sat_bind, sat_ite]
theorem e_tup {es : MEs} : sat (evalE cf (.tup es) δ s) Q = sat (evalEs cf es δ s) fun ds s1 => (ds.length ≤ line ∧ Q (.tup ds) s1) := by
  simp only [evalE, sat_bind, sat_ite, sat_ok, sat_no]
  congr 1; funext ds s1
  by_cases h : ds.length ≤ line <;> simp [h]
theorem e_idx {a b : ME} : sat (evalE cf (.idx a b) δ s) Q = sat (evalE cf a δ s) fun x s1 => sat (evalE cf b δ s1) fun y s2 => lft (idxD s2 x y) fun z => Q z s2 := by
  simp only [evalE, sat_bind, sat_lift]
theorem e_cutS {a : ME} {lo hi : MO} : sat (evalE cf (.cutS a lo hi) δ s) Q = sat (evalE cf a δ s) fun x s1 => sat (evalP cf lo δ s1) fun l s2 => sat (evalP cf hi δ s2) fun h s3 => lft (cutSD x l h) fun z => Q z s3 := by
  simp only [evalE, sat_bind, sat_lift]
def frzO : O → D | .v d => d | .l xs => .lst xs | .x _ _ => .non
theorem e_fz {f : MF} : sat (evalE cf (.fz f) δ s) Q = sat (evalF cf f δ s) fun o s1 => Q (frzO o) s1 := by
  simp only [evalE, sat_bind]
  congr 1; funext o s1; cases o <;> (first | rfl | (simp only [sat_ok, sat_no, sat_exx, wp_nx, wp_bk, wp_ct, wp_ret, wp_no, wp_ex, Re.bind, Re.run, lift, lft]; done) | (simp only [sat_ok, sat_no, sat_exx, wp_nx, wp_bk, wp_ct, wp_ret, wp_no, wp_ex, Re.bind, Re.run, lift, lft]; rfl))
theorem frz_v {d : D} : frzO (.v d) = d := rfl
theorem frz_l {d : List D} : frzO (.l d) = .lst d := rfl
theorem e_peek {i : Nat} {e : ME} : sat (evalE cf (.peek i e) δ s) Q = slotO δ i fun xs => sat (evalE cf e (δ.set i (some (.v (.lst xs)))) s) fun d s1 => (s1 = s ∧ d.scalar = true) ∧ Q d s := by
  simp only [evalE]
  unfold slotO
  rcases hd : δ[i]? with _ | (_ | (d | xs)) <;> try (first | rfl | (simp only [sat_ok, sat_no, sat_exx, wp_nx, wp_bk, wp_ct, wp_ret, wp_no, wp_ex, Re.bind, Re.run, lift, lft]; done) | (simp only [sat_ok, sat_no, sat_exx, wp_nx, wp_bk, wp_ct, wp_ret, wp_no, wp_ex, Re.bind, Re.run, lift, lft]; rfl))
  dsimp only
  cases hr : evalE cf e (δ.set i (some (.v (.lst xs)))) s with
  | no => (first | rfl | (simp only [sat_ok, sat_no, sat_exx, wp_nx, wp_bk, wp_ct, wp_ret, wp_no, wp_ex, Re.bind, Re.run, lift, lft]; done) | (simp only [sat_ok, sat_no, sat_exx, wp_nx, wp_bk, wp_ct, wp_ret, wp_no, wp_ex, Re.bind, Re.run, lift, lft]; rfl))
  | ex a b => (first | rfl | (simp only [sat_ok, sat_no, sat_exx, wp_nx, wp_bk, wp_ct, wp_ret, wp_no, wp_ex, Re.bind, Re.run, lift, lft]; done) | (simp only [sat_ok, sat_no, sat_exx, wp_nx, wp_bk, wp_ct, wp_ret, wp_no, wp_ex, Re.bind, Re.run, lift, lft]; rfl))
  | ok d s1 =>
    by_cases h : s1 = s ∧ d.scalar = true
    · simp [h, sat_ok, sat_no]
    · simp only [sat_ok, h, false_and]
      simp [h, sat_no]
theorem e_bi {f : BF} {es : MEs} : sat (evalE cf (.bi f es) δ s) Q = sat (evalEs cf es δ s) fun ds s1 => lft (biD f s1 ds) fun z => Q z s1 := by
  simp only [evalE, sat_bind, sat_lift]
theorem e_dft {mx : Bool} {a k : ME} : sat (evalE cf (.dft mx a k) δ s) Q = sat (evalE cf a δ s) fun x s1 => sat (evalE cf k δ s1) fun y s2 => lft (dftD mx s2 x y) fun z => Q z s2 := by
  simp only [evalE, sat_bind, sat_lift]
theorem e_isi {a : ME} {t : Ty} : sat (evalE cf (.isi a t) δ s) Q = sat (evalE cf a δ s) fun x s1 => lft (isiD s1 x t) fun z => Q (.bl z) s1 := by
  simp only [evalE, sat_bind, sat_lift, lft_map]
theorem e_new {es : MEs} : sat (evalE cf (.newL es) δ s) Q = sat (evalEs cf es δ s) fun ds s1 => (ds.length ≤ line ∧ Q (.ref s1.c.length) ⟨s1.c ++ [.L ds], s1.w⟩) := by
  simp only [evalE, sat_bind, sat_ite, sat_ok, sat_no]
  congr 1; funext ds s1
  by_cases h : ds.length ≤ line <;> simp [h]
theorem e_peekI {i : Nat} {e : ME} : sat (evalE cf (.peekI i e) δ s) Q = sat (evalE cf e δ s) fun y s1 => slotO δ i fun xs => lft (idxD s1 (.lst xs) y) fun d => (d.scalar = true ∧ Q d s1) := by
  simp only [evalE, sat_bind]
  congr 1; funext y s1
  unfold slotO
  rcases hd : δ[i]? with _ | (_ | (d | xs)) <;> try (simp only [sat_no]; done)
  dsimp only
  cases idxD s1 (.lst xs) y with
  | none => simp only [sat_no, lft_none]
  | some d => simp only [lft_some]; by_cases h : d.scalar = true <;> simp [h, sat_ok, sat_no]
theorem e_newI {c : Nat} : sat (evalE cf (.newI c) δ s) Q = Q (.ref s.c.length) ⟨s.c ++ [.I c []], s.w⟩ := by simp only [evalE, sat_ok]
theorem e_isiC {a : ME} {x : Str} {tb : List (Nat × Bool)} : sat (evalE cf (.isiC a x tb) δ s) Q = sat (evalE cf a δ s) fun d s1 => lft (insD s1 d) fun c => lft (tb.lookup c) fun b => Q (.bl b) s1 := by
  simp only [evalE, sat_bind]
  congr 1; funext d s1
  cases insD s1 d with
  | none => simp only [sat_no, lft_none]
  | some c => simp only [sat_lift, lft_map, lft_some]
theorem e_lenSet {a : ME} : sat (evalE cf (.lenSet a) δ s) Q = sat (evalE cf a δ s) fun d s1 => lft (seqD s1 d) fun xs => lft (intsD xs) fun ns => (ns.length ≤ 1000 ∧ Q (.int (setI ns).length) s1) := by
  simp only [evalE, sat_bind]
  congr 1; funext d s1
  cases seqD s1 d with
  | none => simp only [Option.bind_none, sat_no, lft_none]
  | some xs =>
    simp only [Option.bind_some, lft_some]
    cases intsD xs with
    | none => simp only [sat_no, lft_none]
    | some ns => simp only [lft_some]; by_cases h : ns.length ≤ 1000 <;> simp [h, sat_ok, sat_no]
theorem es_nil : sat (evalEs cf .nil δ s) QL = QL [] s := by simp only [evalEs]; (first | rfl | (simp only [sat_ok, sat_no, sat_exx, wp_nx, wp_bk, wp_ct, wp_ret, wp_no, wp_ex, Re.bind, Re.run, lift, lft]; done) | (simp only [sat_ok, sat_no, sat_exx, wp_nx, wp_bk, wp_ct, wp_ret, wp_no, wp_ex, Re.bind, Re.run, lift, lft]; rfl))
theorem es_cons {e : ME} {es : MEs} : sat (evalEs cf (.cons e es) δ s) QL = sat (evalE cf e δ s) fun x s1 => sat (evalEs cf es δ s1) fun xs s2 => QL (x :: xs) s2 := by
  simp only [evalEs, sat_bind, sat_ok]
theorem t_and {qs : MQs} : sat (evalT cf (.andQ qs) δ s) QB = sat (evalAndT cf qs δ s) QB := by simp only [evalT]
theorem t_or {qs : MQs} : sat (evalT cf (.orQ qs) δ s) QB = sat (evalOrT cf qs δ s) QB := by simp only [evalT]
theorem t_not {q : MQ} : sat (evalT cf (.notQ q) δ s) QB = sat (evalT cf q δ s) fun b s1 => QB (!b) s1 := by simp only [evalT, sat_bind, sat_ok]
theorem t_cmp {o : MC} {a b : ME} : sat (evalT cf (.cmpQ o a b) δ s) QB = sat (evalE cf a δ s) fun x s1 => sat (evalE cf b δ s1) fun y s2 => lft (cmpD o s2 x y) fun z => QB z s2 := by
  simp only [evalT, sat_bind, sat_lift]
theorem t_chain {o p : MC} {a b c : ME} : sat (evalT cf (.chainQ o p a b c) δ s) QB = sat (evalE cf a δ s) fun x s1 => sat (evalE cf b δ s1) fun y s2 => lft (cmpD o s2 x y) fun k => if k = true then sat (evalE cf c δ s2) fun z s4 => lft (cmpD p s4 y z) fun r => QB r s4 else QB false s2 := by
  simp only [evalT, sat_bind, sat_lift, sat_ite, sat_ok]
theorem t_val {e : ME} : sat (evalT cf (.val e) δ s) QB = sat (evalE cf e δ s) fun x s1 => lft (truth s1 x) fun b => QB b s1 := by
  simp only [evalT, sat_bind, sat_lift]
theorem t_yes : sat (evalT cf .yes δ s) QB = QB true s := by simp only [evalT]; (first | rfl | (simp only [sat_ok, sat_no, sat_exx, wp_nx, wp_bk, wp_ct, wp_ret, wp_no, wp_ex, Re.bind, Re.run, lift, lft]; done) | (simp only [sat_ok, sat_no, sat_exx, wp_nx, wp_bk, wp_ct, wp_ret, wp_no, wp_ex, Re.bind, Re.run, lift, lft]; rfl))
theorem ta_1 {q : MQ} : sat (evalAndT cf (.cons q .nil) δ s) QB = sat (evalT cf q δ s) QB := by simp only [evalAndT]
theorem ta_s {q r : MQ} {qs : MQs} : sat (evalAndT cf (.cons q (.cons r qs)) δ s) QB = sat (evalT cf q δ s) fun k s1 => if k = true then sat (evalAndT cf (.cons r qs) δ s1) QB else QB false s1 := by
  simp only [evalAndT, sat_bind, sat_ite, sat_ok]
theorem to_1 {q : MQ} : sat (evalOrT cf (.cons q .nil) δ s) QB = sat (evalT cf q δ s) QB := by simp only [evalOrT]
theorem to_s {q r : MQ} {qs : MQs} : sat (evalOrT cf (.cons q (.cons r qs)) δ s) QB = sat (evalT cf q δ s) fun k s1 => if k = true then QB true s1 else sat (evalOrT cf (.cons r qs) δ s1) QB := by
  simp only [evalOrT, sat_bind, sat_ite, sat_ok]
theorem ea_1 {q : ME} : sat (evalAnd cf (.cons q .nil) δ s) Q = sat (evalE cf q δ s) Q := by simp only [evalAnd]
theorem ea_s {q r : ME} {qs : MEs} : sat (evalAnd cf (.cons q (.cons r qs)) δ s) Q = sat (evalE cf q δ s) fun x s1 => lft (truth s1 x) fun k => if k = true then sat (evalAnd cf (.cons r qs) δ s1) Q else Q x s1 := by
  simp only [evalAnd, sat_bind, sat_ite, sat_ok, sat_lift]
theorem eo_1 {q : ME} : sat (evalOr cf (.cons q .nil) δ s) Q = sat (evalE cf q δ s) Q := by simp only [evalOr]
theorem eo_s {q r : ME} {qs : MEs} : sat (evalOr cf (.cons q (.cons r qs)) δ s) Q = sat (evalE cf q δ s) fun x s1 => lft (truth s1 x) fun k => if k = true then Q x s1 else sat (evalOr cf (.cons r qs) δ s1) Q := by
  simp only [evalOr, sat_bind, sat_ite, sat_ok, sat_lift]
theorem p_none : sat (evalP cf .none δ s) QP = QP none s := by simp only [evalP]; (first | rfl | (simp only [sat_ok, sat_no, sat_exx, wp_nx, wp_bk, wp_ct, wp_ret, wp_no, wp_ex, Re.bind, Re.run, lift, lft]; done) | (simp only [sat_ok, sat_no, sat_exx, wp_nx, wp_bk, wp_ct, wp_ret, wp_no, wp_ex, Re.bind, Re.run, lift, lft]; rfl))
def intP : D → Option Int | .int i => some i | _ => none
theorem p_some {e : ME} : sat (evalP cf (.some e) δ s) QP = sat (evalE cf e δ s) fun x s1 => lft (intP x) fun i => QP (some i) s1 := by
  simp only [evalP, sat_bind]
  congr 1; funext x s1; cases x <;> (first | rfl | (simp only [sat_ok, sat_no, sat_exx, wp_nx, wp_bk, wp_ct, wp_ret, wp_no, wp_ex, Re.bind, Re.run, lift, lft]; done) | (simp only [sat_ok, sat_no, sat_exx, wp_nx, wp_bk, wp_ct, wp_ret, wp_no, wp_ex, Re.bind, Re.run, lift, lft]; rfl))
theorem intP_int {i : Int} : intP (.int i) = some i := rfl
theorem f_lst {es : MEs} : sat (evalF cf (.lst es) δ s) QO = sat (evalEs cf es δ s) fun ds s1 => (ds.length ≤ line ∧ QO (.l ds) s1) := by
  simp only [evalF, sat_bind, sat_ite, sat_ok, sat_no]
  congr 1; funext ds s1
  by_cases h : ds.length ≤ line <;> simp [h]
noncomputable def turnP (cf : Nat → List D → Sto → Re O) (own : List Nat) (tg : MT) (cnd : MQ) (elt : ME) (δ : Lcs) (x : D) (s2 : Sto) : Re (Option D) := match bindT tg x (wipeL δ own) with
  | some δ1 => (evalT cf cnd δ1 s2).bind fun b s3 => if b = true then (evalE cf elt δ1 s3).bind fun d s4 => .ok (some d) s4 else .ok none s3
  | none => .no
theorem f_comp {own : List Nat} {tg : MT} {it : MI} {cnd : MQ} {elt : ME} : sat (evalF cf (.comp own tg it cnd elt) δ s) QO = sat (evalI cf it δ s) fun t s1 => (t.xs.length ≤ line ∧ sat (compGo t (turnP cf own tg cnd elt δ) t.xs s1) fun ds s5 => QO (.l ds) s5) := by
  simp only [evalF, sat_bind, sat_ite, sat_no, sat_ok]
  congr 1; funext t s1
  by_cases h : t.xs.length ≤ line
  · simp only [h, if_true, true_and]; (first | rfl | (simp only [sat_ok, sat_no, sat_exx, wp_nx, wp_bk, wp_ct, wp_ret, wp_no, wp_ex, Re.bind, Re.run, lift, lft]; done) | (simp only [sat_ok, sat_no, sat_exx, wp_nx, wp_bk, wp_ct, wp_ret, wp_no, wp_ex, Re.bind, Re.run, lift, lft]; rfl))
  · simp [h]
def lstD : D → Option (List D) | .lst xs => some xs | _ => none
theorem lstD_lst {xs : List D} : lstD (.lst xs) = some xs := rfl
theorem f_cutL {a : ME} {lo hi : MO} : sat (evalF cf (.cutL a lo hi) δ s) QO = sat (evalE cf a δ s) fun x s1 => sat (evalP cf lo δ s1) fun l s2 => sat (evalP cf hi δ s2) fun h s3 => lft (lstD (deref s3 x)) fun xs => QO (.l (cutG xs l h)) s3 := by
  simp only [evalF, sat_bind]
  congr 1; funext x s1; congr 1; funext l s2; congr 1; funext h s3; cases deref s3 x <;> (first | rfl | (simp only [sat_ok, sat_no, sat_exx, wp_nx, wp_bk, wp_ct, wp_ret, wp_no, wp_ex, Re.bind, Re.run, lift, lft]; done) | (simp only [sat_ok, sat_no, sat_exx, wp_nx, wp_bk, wp_ct, wp_ret, wp_no, wp_ex, Re.bind, Re.run, lift, lft]; rfl))
theorem f_rev {a : ME} : sat (evalF cf (.rev a) δ s) QO = sat (evalE cf a δ s) fun x s1 => lft (lstD (deref s1 x)) fun xs => QO (.l xs.reverse) s1 := by
  simp only [evalF, sat_bind]
  congr 1; funext x s1; cases deref s1 x <;> (first | rfl | (simp only [sat_ok, sat_no, sat_exx, wp_nx, wp_bk, wp_ct, wp_ret, wp_no, wp_ex, Re.bind, Re.run, lift, lft]; done) | (simp only [sat_ok, sat_no, sat_exx, wp_nx, wp_bk, wp_ct, wp_ret, wp_no, wp_ex, Re.bind, Re.run, lift, lft]; rfl))
theorem f_cat {a b : ME} : sat (evalF cf (.cat a b) δ s) QO = sat (evalE cf a δ s) fun x s1 => sat (evalE cf b δ s1) fun y s2 => lft (lstD (deref s2 x)) fun xs => lft (lstD (deref s2 y)) fun ys => (xs.length + ys.length ≤ line ∧ QO (.l (xs ++ ys)) s2) := by
  simp only [evalF, sat_bind]
  congr 1; funext x s1; congr 1; funext y s2
  cases hx : deref s2 x <;> cases hy : deref s2 y <;> first | (simp only [lstD, lft, sat_no]; done) | (simp only [lstD, lft]; rename_i xs ys; by_cases h : xs.length + ys.length ≤ line <;> simp [h, sat_ok, sat_no])
theorem f_rep {f : MF} {b : ME} : sat (evalF cf (.rep f b) δ s) QO = sat (evalF cf f δ s) fun x s1 => sat (evalE cf b δ s1) fun y s2 => (∃ xs k, x = .l xs ∧ y = .int k ∧ (0 ≤ k ∧ k < 1000000 ∧ xs.length * k.toNat ≤ line) ∧ QO (.l (List.replicate k.toNat xs).flatten) s2) := by
  simp only [evalF, sat_bind]
  congr 1; funext x s1; congr 1; funext y s2
  cases x <;> cases y <;> simp [sat_ok, sat_no]
  rename_i xs k
  by_cases h : 0 ≤ k ∧ k < 1000000 ∧ xs.length * k.toNat ≤ line <;> simp [h, sat_ok, sat_no]
theorem f_repE {a b : ME} : sat (evalF cf (.repE a b) δ s) QO = sat (evalE cf a δ s) fun x s1 => sat (evalE cf b δ s1) fun y s2 => lft (lstD (deref s2 x)) fun xs => lft (intP y) fun k => ((0 ≤ k ∧ k < 1000000 ∧ xs.length * k.toNat ≤ line) ∧ QO (.l (List.replicate k.toNat xs).flatten) s2) := by
  simp only [evalF, sat_bind]
  congr 1; funext x s1; congr 1; funext y s2
  cases hx : deref s2 x <;> cases y <;> first | (simp only [lstD, intP, lft, sat_no]; done) | (simp only [lstD, intP, lft]; rename_i xs k; by_cases h : 0 ≤ k ∧ k < 1000000 ∧ xs.length * k.toNat ≤ line <;> simp [h, sat_ok, sat_no])
theorem f_listOf {e : ME} : sat (evalF cf (.bf .listOf e) δ s) QO = sat (evalE cf e δ s) fun x s1 => lft (seqD s1 x) fun xs => QO (.l xs) s1 := by
  simp only [evalF, sat_bind]
  congr 1; funext x s1; cases seqD s1 x <;> (first | rfl | (simp only [sat_ok, sat_no, sat_exx, wp_nx, wp_bk, wp_ct, wp_ret, wp_no, wp_ex, Re.bind, Re.run, lift, lft]; done) | (simp only [sat_ok, sat_no, sat_exx, wp_nx, wp_bk, wp_ct, wp_ret, wp_no, wp_ex, Re.bind, Re.run, lift, lft]; rfl))
theorem f_lrange {a : ME} : sat (evalF cf (.lrange a) δ s) QO = sat (evalE cf a δ s) fun x s1 => lft (intP x) fun j => ((0 ≤ j ∧ j ≤ 16777216) ∧ QO (.l (upFrom 0 j.toNat)) s1) := by
  simp only [evalF, sat_bind]
  congr 1; funext x s1
  cases x <;> first | (simp only [sat_no, lft, intP]; done) | (rename_i j; by_cases h : 0 ≤ j ∧ j ≤ 16777216 <;> simp [h, sat_ok, sat_no, intP, lft])
theorem f_sortK {f : Nat} {a : ME} : sat (evalF cf (.sortK f a) δ s) QO = sat (evalE cf a δ s) fun x s1 => lft (listD s1 x) fun xs => sat (keysGo cf f xs s1) fun ks s2 => (sortOk ks = true ∧ QO (.l (sortKD ks xs)) s2) := by
  simp only [evalF, sat_bind]
  congr 1; funext x s1
  cases listD s1 x with
  | none => simp only [sat_no, lft_none]
  | some xs =>
    simp only [lft_some, sat_bind]
    congr 1; funext ks s2
    by_cases h : sortOk ks = true <;> simp [h, sat_ok, sat_no]
theorem sat_keys {f : Nat} {k : D → D} : ∀ {xs : List D} {s : Sto}, (∀ x ∈ xs, sat (cf f [x] s) fun r s' => r = .v (k x) ∧ s' = s) → sat (keysGo cf f xs s) fun ks s' => ks = xs.map k ∧ s' = s
  | [], s, _ => by simp only [keysGo, sat_ok, List.map_nil, and_self]
  | x :: xs, s, h => by
    simp only [keysGo, sat_bind]
    refine sat_mono (h x List.mem_cons_self) fun r s' hr => ?_
    obtain ⟨rfl, rfl⟩ := hr
    simp only [sat_bind]
    refine sat_mono (sat_keys (f := f) (k := k) fun y hy => h y (List.mem_cons_of_mem _ hy)) fun ks s2 hk => ?_
    obtain ⟨rfl, rfl⟩ := hk
    simp only [sat_ok, List.map_cons, and_self]
theorem i_zip {a b : ME} : sat (evalI cf (.zip a b) δ s) QW = sat (evalE cf a δ s) fun x s1 => sat (evalE cf b δ s1) fun y s2 => lft (lstD x) fun xs => lft (lstD y) fun ys => QW ⟨zipL xs ys, none⟩ s2 := by
  simp only [evalI, sat_bind]
  congr 1; funext x s1; congr 1; funext y s2
  cases x <;> cases y <;> simp only [lstD, lft, sat_no, sat_ok]
theorem f_sorted {e : ME} : sat (evalF cf (.bf .sorted e) δ s) QO = sat (evalE cf e δ s) fun x s1 => lft (listD s1 x) fun xs => lft (sortD xs) fun ys => QO (.l ys) s1 := by
  simp only [evalF, sat_bind]
  congr 1; funext x s1
  cases listD s1 x with
  | none => simp only [Option.bind_none, sat_no, lft_none]
  | some xs =>
    simp only [Option.bind_some, lft_some]
    cases sortD xs with
    | none => simp only [sat_no, lft_none]
    | some ns => simp only [lft_some, sat_ok]
theorem f_sortSet {e : ME} : sat (evalF cf (.bf .sortSet e) δ s) QO = sat (evalE cf e δ s) fun x s1 => lft (seqD s1 x) fun xs => lft (intsD xs) fun ns => (ns.length ≤ 1000 ∧ QO (.l (intL (setI ns))) s1) := by
  simp only [evalF, sat_bind]
  congr 1; funext x s1
  cases seqD s1 x with
  | none => simp only [Option.bind_none, sat_no, lft_none]
  | some xs =>
    simp only [Option.bind_some, lft_some]
    cases intsD xs with
    | none => simp only [sat_no, lft_none]
    | some ns => simp only [lft_some]; by_cases h : ns.length ≤ 1000 <;> simp [h, sat_ok, sat_no]
theorem f_meth {tb : List (Nat × Nat)} {o : ME} {x : Str} {es : MEs} : sat (evalF cf (.meth tb o x es) δ s) QO = sat (evalE cf o δ s) fun d s1 => lft (insD s1 d) fun c => lft (tb.lookup c) fun f => sat (evalEs cf es δ s1) fun ds s2 => sat (cf f (d :: ds) s2) QO := by
  simp only [evalF, sat_bind]
  congr 1; funext d s1
  cases insD s1 d with
  | none => simp only [Option.bind_none, sat_no, lft_none]
  | some c =>
    simp only [Option.bind_some, lft_some]
    cases tb.lookup c with
    | none => simp only [sat_no, lft_none]
    | some f => simp only [lft_some, sat_bind]
theorem f_call {f : Nat} {es : MEs} : sat (evalF cf (.call f es) δ s) QO = sat (evalEs cf es δ s) fun ds s1 => sat (cf f ds s1) QO := by
  simp only [evalF, sat_bind]
theorem i_seq {e : ME} : sat (evalI cf (.seq e) δ s) QW = sat (evalE cf e δ s) fun x s1 => lft (itsOf s1 x) fun t => QW t s1 := by
  simp only [evalI, sat_bind, sat_lift]
theorem i_r1 {a : ME} : sat (evalI cf (.r1 a) δ s) QW = sat (evalE cf a δ s) fun x s1 => lft (intP x) fun j => (small j ∧ QW ⟨upFrom 0 j.toNat, none⟩ s1) := by
  simp only [evalI, sat_bind]
  congr 1; funext x s1
  cases x <;> first | rfl | (simp only [sat_ok, sat_no, sat_exx, lft, intP]; done) | (rename_i j; by_cases h : small j <;> simp [h, sat_ok, sat_no, intP, lft])
theorem i_r2 {a b : ME} : sat (evalI cf (.r2 a b) δ s) QW = sat (evalE cf a δ s) fun x s1 => sat (evalE cf b δ s1) fun y s2 => lft (intP x) fun i => lft (intP y) fun j => ((small i ∧ small j) ∧ QW ⟨upFrom i (j - i).toNat, none⟩ s2) := by
  simp only [evalI, sat_bind]
  congr 1; funext x s1; congr 1; funext y s2
  cases x <;> cases y <;> first | rfl | (simp only [sat_ok, sat_no, sat_exx, lft, intP]; done) | (rename_i i j; by_cases h : small i ∧ small j <;> simp [h, sat_ok, sat_no, intP, lft])
end

section
variable {cf : Nat → List D → Sto → Re O} {δ : Lcs} {s : Sto} {QW : Wk → Sto → Prop}
theorem i_r3 {a b c : ME} : sat (evalI cf (.r3 a b c) δ s) QW = sat (evalE cf a δ s) fun x s1 => sat (evalE cf b δ s1) fun y s2 => sat (evalE cf c δ s2) fun z s3 => lft (intP x) fun i => lft (intP y) fun j => lft (intP z) fun k => ((small i ∧ small j ∧ k = -1) ∧ QW ⟨dnFrom i (i - j).toNat, none⟩ s3) := by
  simp only [evalI, sat_bind]
  congr 1; funext x s1; congr 1; funext y s2; congr 1; funext z s3
  cases x <;> cases y <;> cases z <;> first | rfl | (simp only [sat_ok, sat_no, sat_exx, lft, intP]; done) | (rename_i i j k; by_cases h : small i ∧ small j ∧ k = -1 <;> simp [h, sat_ok, sat_no, intP, lft])
end
section
variable {cf : Nat → List D → Sto → Re O} {N : Nat} {δ : Lcs} {s : Sto} {E : En}
theorem w_nil : wp (execs cf N .nil s δ) E = E.nx s δ := by simp only [execs]; (first | rfl | (simp only [sat_ok, sat_no, sat_exx, wp_nx, wp_bk, wp_ct, wp_ret, wp_no, wp_ex, Re.bind, Re.run, lift, lft]; done) | (simp only [sat_ok, sat_no, sat_exx, wp_nx, wp_bk, wp_ct, wp_ret, wp_no, wp_ex, Re.bind, Re.run, lift, lft]; rfl))
theorem w_cons {m : MS} {ms : MSs} : wp (execs cf N (.cons m ms) s δ) E = wp (exec cf N m s δ) ⟨fun s1 δ1 => wp (execs cf N ms s1 δ1) E, E.bk, E.ct, E.rt, E.ex⟩ := by
  simp only [execs]
  cases exec cf N m s δ <;> (first | rfl | (simp only [sat_ok, sat_no, sat_exx, wp_nx, wp_bk, wp_ct, wp_ret, wp_no, wp_ex, Re.bind, Re.run, lift, lft]; done) | (simp only [sat_ok, sat_no, sat_exx, wp_nx, wp_bk, wp_ct, wp_ret, wp_no, wp_ex, Re.bind, Re.run, lift, lft]; rfl))
theorem w_asg {i : Nat} {e : ME} : wp (exec cf N (.asg i e) s δ) E = sat (evalE cf e δ s) fun d s1 => E.nx s1 (δ.set i (some (.v d))) := by simp only [exec, sat_run]; (first | rfl | (simp only [sat_ok, sat_no, sat_exx, wp_nx, wp_bk, wp_ct, wp_ret, wp_no, wp_ex, Re.bind, Re.run, lift, lft]; done) | (simp only [sat_ok, sat_no, sat_exx, wp_nx, wp_bk, wp_ct, wp_ret, wp_no, wp_ex, Re.bind, Re.run, lift, lft]; rfl))
theorem w_asgO {i : Nat} {f : MF} : wp (exec cf N (.asgO i f) s δ) E = sat (evalF cf f δ s) fun o s1 => E.nx s1 (δ.set i (some o)) := by simp only [exec, sat_run]; (first | rfl | (simp only [sat_ok, sat_no, sat_exx, wp_nx, wp_bk, wp_ct, wp_ret, wp_no, wp_ex, Re.bind, Re.run, lift, lft]; done) | (simp only [sat_ok, sat_no, sat_exx, wp_nx, wp_bk, wp_ct, wp_ret, wp_no, wp_ex, Re.bind, Re.run, lift, lft]; rfl))
def lO : O → Option (List D) | .l xs => some xs | _ => none
theorem lO_l {xs : List D} : lO (.l xs) = some xs := rfl
theorem w_asgC {i : Nat} {f : MF} : wp (exec cf N (.asgC i f) s δ) E = sat (evalF cf f δ s) fun o s1 => lft (lO o) fun xs => E.nx ⟨s1.c ++ [.L xs], s1.w⟩ (δ.set i (some (.v (.ref s1.c.length)))) := by
  simp only [exec, sat_run]
  congr 1; funext o s1; cases o <;> (first | rfl | (simp only [sat_ok, sat_no, sat_exx, wp_nx, wp_bk, wp_ct, wp_ret, wp_no, wp_ex, Re.bind, Re.run, lift, lft]; done) | (simp only [sat_ok, sat_no, sat_exx, wp_nx, wp_bk, wp_ct, wp_ret, wp_no, wp_ex, Re.bind, Re.run, lift, lft]; rfl))
def tupD : D → Option (List D) | .tup xs => some xs | _ => none
theorem tupD_tup {xs : List D} : tupD (.tup xs) = some xs := rfl
theorem w_asgT {is : List Nat} {e : ME} : wp (exec cf N (.asgT is e) s δ) E = sat (evalE cf e δ s) fun d s1 => lft (tupD d) fun xs => lft (setsL δ is xs) fun δ1 => E.nx s1 δ1 := by
  simp only [exec, sat_run]
  congr 1; funext d s1; cases d <;> try (first | rfl | (simp only [sat_ok, sat_no, sat_exx, wp_nx, wp_bk, wp_ct, wp_ret, wp_no, wp_ex, Re.bind, Re.run, lift, lft]; done) | (simp only [sat_ok, sat_no, sat_exx, wp_nx, wp_bk, wp_ct, wp_ret, wp_no, wp_ex, Re.bind, Re.run, lift, lft]; rfl))
  rename_i xs
  simp only [tupD, lft_some]
  cases setsL δ is xs <;> (first | rfl | (simp only [sat_ok, sat_no, sat_exx, wp_nx, wp_bk, wp_ct, wp_ret, wp_no, wp_ex, Re.bind, Re.run, lift, lft]; done) | (simp only [sat_ok, sat_no, sat_exx, wp_nx, wp_bk, wp_ct, wp_ret, wp_no, wp_ex, Re.bind, Re.run, lift, lft]; rfl))
theorem w_par {i j : Nat} {a b : ME} : wp (exec cf N (.par i j a b) s δ) E = sat (evalE cf a δ s) fun x s1 => sat (evalE cf b δ s1) fun y s2 => E.nx s2 ((δ.set i (some (.v x))).set j (some (.v y))) := by simp only [exec, sat_run, wp_nx]
theorem w_aug {i : Nat} {o : MB} {e : ME} : wp (exec cf N (.aug i o e) s δ) E = slot δ i fun x => sat (evalE cf e δ s) fun y s1 => lft (augD o x y) fun z => E.nx s1 (δ.set i (some (.v z))) := by
  simp only [exec]; unfold slot
  rcases hd : δ[i]? with _ | (_ | (x | xs)) <;> try (first | rfl | (simp only [sat_ok, sat_no, sat_exx, wp_nx, wp_bk, wp_ct, wp_ret, wp_no, wp_ex, Re.bind, Re.run, lift, lft]; done) | (simp only [sat_ok, sat_no, sat_exx, wp_nx, wp_bk, wp_ct, wp_ret, wp_no, wp_ex, Re.bind, Re.run, lift, lft]; rfl))
  simp only [sat_run]
  congr 1; funext y s1; cases augD o x y <;> (first | rfl | (simp only [sat_ok, sat_no, sat_exx, wp_nx, wp_bk, wp_ct, wp_ret, wp_no, wp_ex, Re.bind, Re.run, lift, lft]; done) | (simp only [sat_ok, sat_no, sat_exx, wp_nx, wp_bk, wp_ct, wp_ret, wp_no, wp_ex, Re.bind, Re.run, lift, lft]; rfl))
def celL (s : Sto) : D → Option (Nat × List D) | .ref n => (match s.c[n]? with | some (.L xs) => some (n, xs) | _ => none) | _ => none
theorem celL_of {n : Nat} {xs : List D} (h : s.c[n]? = some (.L xs)) : celL s (.ref n) = some (n, xs) := by simp only [celL, h]
theorem w_setC {o k e : ME} : wp (exec cf N (.setC o k e) s δ) E = sat (evalE cf e δ s) fun d s1 => sat (evalE cf o δ s1) fun x s2 => sat (evalE cf k δ s2) fun y s3 => lft (celL s3 x) fun q => lft (setAt q.2 y d) fun ys => E.nx ⟨s3.c.set q.1 (.L ys), s3.w + 1⟩ δ := by
  simp only [exec, sat_run]
  congr 1; funext d s1; congr 1; funext x s2; congr 1; funext y s3
  cases x <;> try (first | rfl | (simp only [sat_ok, sat_no, sat_exx, wp_nx, wp_bk, wp_ct, wp_ret, wp_no, wp_ex, Re.bind, Re.run, lift, lft]; done) | (simp only [sat_ok, sat_no, sat_exx, wp_nx, wp_bk, wp_ct, wp_ret, wp_no, wp_ex, Re.bind, Re.run, lift, lft]; rfl))
  rename_i n
  simp only [celL]
  cases hn : s3.c[n]? with
  | none => (first | rfl | (simp only [sat_ok, sat_no, sat_exx, wp_nx, wp_bk, wp_ct, wp_ret, wp_no, wp_ex, Re.bind, Re.run, lift, lft]; done) | (simp only [sat_ok, sat_no, sat_exx, wp_nx, wp_bk, wp_ct, wp_ret, wp_no, wp_ex, Re.bind, Re.run, lift, lft]; rfl))
  | some c => cases c <;> try (first | rfl | (simp only [sat_ok, sat_no, sat_exx, wp_nx, wp_bk, wp_ct, wp_ret, wp_no, wp_ex, Re.bind, Re.run, lift, lft]; done) | (simp only [sat_ok, sat_no, sat_exx, wp_nx, wp_bk, wp_ct, wp_ret, wp_no, wp_ex, Re.bind, Re.run, lift, lft]; rfl))
              simp only [lft_some]
              rename_i xs
              cases setAt xs y d <;> (first | rfl | (simp only [sat_ok, sat_no, sat_exx, wp_nx, wp_bk, wp_ct, wp_ret, wp_no, wp_ex, Re.bind, Re.run, lift, lft]; done) | (simp only [sat_ok, sat_no, sat_exx, wp_nx, wp_bk, wp_ct, wp_ret, wp_no, wp_ex, Re.bind, Re.run, lift, lft]; rfl))
theorem w_augC {o k e : ME} {p : MB} : wp (exec cf N (.augC o k p e) s δ) E = sat (evalE cf o δ s) fun x s1 => sat (evalE cf k δ s1) fun y s2 => lft (idxD s2 x y) fun z => sat (evalE cf e δ s2) fun d s3 => lft (augD p z d) fun w => lft (celL s3 x) fun q => lft (setAt q.2 y w) fun ys => E.nx ⟨s3.c.set q.1 (.L ys), s3.w + 1⟩ δ := by
  simp only [exec, sat_run]
  congr 1; funext x s1; congr 1; funext y s2
  cases idxD s2 x y <;> try (first | rfl | (simp only [sat_ok, sat_no, sat_exx, wp_nx, wp_bk, wp_ct, wp_ret, wp_no, wp_ex, Re.bind, Re.run, lift, lft]; done) | (simp only [sat_ok, sat_no, sat_exx, wp_nx, wp_bk, wp_ct, wp_ret, wp_no, wp_ex, Re.bind, Re.run, lift, lft]; rfl))
  simp only [sat_run, lft_some]
  congr 1; funext d s3
  rename_i z
  cases augD p z d <;> try (first | rfl | (simp only [sat_ok, sat_no, sat_exx, wp_nx, wp_bk, wp_ct, wp_ret, wp_no, wp_ex, Re.bind, Re.run, lift, lft]; done) | (simp only [sat_ok, sat_no, sat_exx, wp_nx, wp_bk, wp_ct, wp_ret, wp_no, wp_ex, Re.bind, Re.run, lift, lft]; rfl))
  simp only [lft_some]
  cases x <;> try (first | rfl | (simp only [sat_ok, sat_no, sat_exx, wp_nx, wp_bk, wp_ct, wp_ret, wp_no, wp_ex, Re.bind, Re.run, lift, lft]; done) | (simp only [sat_ok, sat_no, sat_exx, wp_nx, wp_bk, wp_ct, wp_ret, wp_no, wp_ex, Re.bind, Re.run, lift, lft]; rfl))
  rename_i n
  simp only [celL]
  cases hn : s3.c[n]? with
  | none => (first | rfl | (simp only [sat_ok, sat_no, sat_exx, wp_nx, wp_bk, wp_ct, wp_ret, wp_no, wp_ex, Re.bind, Re.run, lift, lft]; done) | (simp only [sat_ok, sat_no, sat_exx, wp_nx, wp_bk, wp_ct, wp_ret, wp_no, wp_ex, Re.bind, Re.run, lift, lft]; rfl))
  | some c => cases c <;> try (first | rfl | (simp only [sat_ok, sat_no, sat_exx, wp_nx, wp_bk, wp_ct, wp_ret, wp_no, wp_ex, Re.bind, Re.run, lift, lft]; done) | (simp only [sat_ok, sat_no, sat_exx, wp_nx, wp_bk, wp_ct, wp_ret, wp_no, wp_ex, Re.bind, Re.run, lift, lft]; rfl))
              simp only [lft_some]
              rename_i w xs
              cases setAt xs y w <;> (first | rfl | (simp only [sat_ok, sat_no, sat_exx, wp_nx, wp_bk, wp_ct, wp_ret, wp_no, wp_ex, Re.bind, Re.run, lift, lft]; done) | (simp only [sat_ok, sat_no, sat_exx, wp_nx, wp_bk, wp_ct, wp_ret, wp_no, wp_ex, Re.bind, Re.run, lift, lft]; rfl))
theorem w_setO {i : Nat} {k e : ME} : wp (exec cf N (.setO i k e) s δ) E = sat (evalE cf e δ s) fun d s1 => sat (evalE cf k δ s1) fun y s2 => slotO δ i fun xs => lft (setAt xs y d) fun ys => E.nx s2 (δ.set i (some (.l ys))) := by
  simp only [exec, sat_run]
  congr 1; funext d s1; congr 1; funext y s2
  unfold slotO
  rcases hd : δ[i]? with _ | (_ | (x | xs)) <;> try (first | rfl | (simp only [sat_ok, sat_no, sat_exx, wp_nx, wp_bk, wp_ct, wp_ret, wp_no, wp_ex, Re.bind, Re.run, lift, lft]; done) | (simp only [sat_ok, sat_no, sat_exx, wp_nx, wp_bk, wp_ct, wp_ret, wp_no, wp_ex, Re.bind, Re.run, lift, lft]; rfl))
  dsimp only
  cases setAt xs y d <;> (first | rfl | (simp only [sat_ok, sat_no, sat_exx, wp_nx, wp_bk, wp_ct, wp_ret, wp_no, wp_ex, Re.bind, Re.run, lift, lft]; done) | (simp only [sat_ok, sat_no, sat_exx, wp_nx, wp_bk, wp_ct, wp_ret, wp_no, wp_ex, Re.bind, Re.run, lift, lft]; rfl))
theorem w_augO {i : Nat} {k e : ME} {p : MB} : wp (exec cf N (.augO i k p e) s δ) E = sat (evalE cf k δ s) fun y s1 => slotO δ i fun xs => lft (idxD s1 (.lst xs) y) fun z => sat (evalE cf e δ s1) fun d s2 => lft (augD p z d) fun w => lft (setAt xs y w) fun ys => E.nx s2 (δ.set i (some (.l ys))) := by
  simp only [exec, sat_run]
  congr 1; funext y s1
  unfold slotO
  rcases hd : δ[i]? with _ | (_ | (x | xs)) <;> try (simp only [wp_no]; done)
  dsimp only
  cases idxD s1 (.lst xs) y with
  | none => simp only [wp_no, lft_none]
  | some z =>
    simp only [lft_some, sat_run]
    congr 1; funext d s2
    cases augD p z d with
    | none => simp only [wp_no, lft_none]
    | some w =>
      simp only [lft_some]
      cases setAt xs y w <;> simp only [wp_no, wp_nx, lft_none, lft_some]
theorem w_mtO {m : OM} {i : Nat} {es : MEs} : wp (exec cf N (.mtO m i es) s δ) E = sat (evalEs cf es δ s) fun ds s1 => slotO δ i fun xs => lft (omD m xs ds) fun q => E.nx s1 (δ.set i (some (.l q.1))) := by
  simp only [exec, sat_run]
  congr 1; funext d s1
  unfold slotO
  rcases hd : δ[i]? with _ | (_ | (x | xs)) <;> try (first | rfl | (simp only [sat_ok, sat_no, sat_exx, wp_nx, wp_bk, wp_ct, wp_ret, wp_no, wp_ex, Re.bind, Re.run, lift, lft]; done) | (simp only [sat_ok, sat_no, sat_exx, wp_nx, wp_bk, wp_ct, wp_ret, wp_no, wp_ex, Re.bind, Re.run, lift, lft]; rfl))
  dsimp only
  cases omD m xs d <;> (first | rfl | (simp only [sat_ok, sat_no, sat_exx, wp_nx, wp_bk, wp_ct, wp_ret, wp_no, wp_ex, Re.bind, Re.run, lift, lft]; done) | (simp only [sat_ok, sat_no, sat_exx, wp_nx, wp_bk, wp_ct, wp_ret, wp_no, wp_ex, Re.bind, Re.run, lift, lft]; rfl))
theorem w_mtC {m : OM} {o : ME} {es : MEs} : wp (exec cf N (.mtC m o es) s δ) E = sat (evalE cf o δ s) fun x s1 => lft (celL s1 x) fun _ => sat (evalEs cf es δ s1) fun ds s2 => lft (celL s2 x) fun q => lft (omD m q.2 ds) fun r => E.nx ⟨s2.c.set q.1 (.L r.1), s2.w + 1⟩ δ := by
  simp only [exec, sat_run]
  congr 1; funext x s1
  cases x <;> try (first | rfl | (simp only [sat_ok, sat_no, sat_exx, wp_nx, wp_bk, wp_ct, wp_ret, wp_no, wp_ex, Re.bind, Re.run, lift, lft]; done) | (simp only [sat_ok, sat_no, sat_exx, wp_nx, wp_bk, wp_ct, wp_ret, wp_no, wp_ex, Re.bind, Re.run, lift, lft]; rfl))
  rename_i n
  simp only [celL]
  cases hn : s1.c[n]? with
  | none => (first | rfl | (simp only [sat_ok, sat_no, sat_exx, wp_nx, wp_bk, wp_ct, wp_ret, wp_no, wp_ex, Re.bind, Re.run, lift, lft]; done) | (simp only [sat_ok, sat_no, sat_exx, wp_nx, wp_bk, wp_ct, wp_ret, wp_no, wp_ex, Re.bind, Re.run, lift, lft]; rfl))
  | some c => cases c <;> try (first | rfl | (simp only [sat_ok, sat_no, sat_exx, wp_nx, wp_bk, wp_ct, wp_ret, wp_no, wp_ex, Re.bind, Re.run, lift, lft]; done) | (simp only [sat_ok, sat_no, sat_exx, wp_nx, wp_bk, wp_ct, wp_ret, wp_no, wp_ex, Re.bind, Re.run, lift, lft]; rfl))
              simp only [lft_some, sat_run]
              congr 1; funext ds s2
              cases hn : s2.c[n]? with
              | none => (first | rfl | (simp only [sat_ok, sat_no, sat_exx, wp_nx, wp_bk, wp_ct, wp_ret, wp_no, wp_ex, Re.bind, Re.run, lift, lft]; done) | (simp only [sat_ok, sat_no, sat_exx, wp_nx, wp_bk, wp_ct, wp_ret, wp_no, wp_ex, Re.bind, Re.run, lift, lft]; rfl))
              | some c => cases c <;> try (first | rfl | (simp only [sat_ok, sat_no, sat_exx, wp_nx, wp_bk, wp_ct, wp_ret, wp_no, wp_ex, Re.bind, Re.run, lift, lft]; done) | (simp only [sat_ok, sat_no, sat_exx, wp_nx, wp_bk, wp_ct, wp_ret, wp_no, wp_ex, Re.bind, Re.run, lift, lft]; rfl))
                          simp only [lft_some]
                          rename_i xs
                          cases omD m xs ds <;> (first | rfl | (simp only [sat_ok, sat_no, sat_exx, wp_nx, wp_bk, wp_ct, wp_ret, wp_no, wp_ex, Re.bind, Re.run, lift, lft]; done) | (simp only [sat_ok, sat_no, sat_exx, wp_nx, wp_bk, wp_ct, wp_ret, wp_no, wp_ex, Re.bind, Re.run, lift, lft]; rfl))
theorem w_if {c : MQ} {a b : MSs} : wp (exec cf N (.ifS c a b) s δ) E = sat (evalT cf c δ s) fun k s1 => if k = true then wp (execs cf N a s1 δ) E else wp (execs cf N b s1 δ) E := by
  simp only [exec, sat_run]
  congr 1; funext k s1; cases k <;> (first | rfl | (simp only [sat_ok, sat_no, sat_exx, wp_nx, wp_bk, wp_ct, wp_ret, wp_no, wp_ex, Re.bind, Re.run, lift, lft]; done) | (simp only [sat_ok, sat_no, sat_exx, wp_nx, wp_bk, wp_ct, wp_ret, wp_no, wp_ex, Re.bind, Re.run, lift, lft]; rfl))
theorem w_whl {c : MQ} {b : MSs} : exec cf N (.whl c b) s δ = whlGo (evalT cf c) (execs cf N b) N s δ := by simp only [exec]
theorem w_for {tg : MT} {it : MI} {b : MSs} : wp (exec cf N (.forS tg it b) s δ) E = sat (evalI cf it δ s) fun t s1 => wp (forGo t tg (execs cf N b) t.xs s1 δ) E := by
  simp only [exec, sat_run]
theorem w_ret {e : ME} : wp (exec cf N (.ret e) s δ) E = sat (evalE cf e δ s) fun d s1 => E.rt (.v d) s1 := by simp only [exec, sat_run]; (first | rfl | (simp only [sat_ok, sat_no, sat_exx, wp_nx, wp_bk, wp_ct, wp_ret, wp_no, wp_ex, Re.bind, Re.run, lift, lft]; done) | (simp only [sat_ok, sat_no, sat_exx, wp_nx, wp_bk, wp_ct, wp_ret, wp_no, wp_ex, Re.bind, Re.run, lift, lft]; rfl))
theorem w_retF {f : MF} : wp (exec cf N (.retF f) s δ) E = sat (evalF cf f δ s) fun d s1 => E.rt d s1 := by simp only [exec, sat_run]; (first | rfl | (simp only [sat_ok, sat_no, sat_exx, wp_nx, wp_bk, wp_ct, wp_ret, wp_no, wp_ex, Re.bind, Re.run, lift, lft]; done) | (simp only [sat_ok, sat_no, sat_exx, wp_nx, wp_bk, wp_ct, wp_ret, wp_no, wp_ex, Re.bind, Re.run, lift, lft]; rfl))
def slotA (δ : Lcs) (i : Nat) (Q : O → Prop) : Prop := match δ[i]? with | some (some (.v d)) => Q (.v d) | some (some (.l d)) => Q (.l d) | _ => False
theorem slotA_0 {d : D} {Q : O → Prop} : slotA (some (.v d) :: δ) 0 Q = Q (.v d) := rfl
theorem slotA_0l {d : List D} {Q : O → Prop} : slotA (some (.l d) :: δ) 0 Q = Q (.l d) := rfl
theorem slotA_s {o : Option O} {i : Nat} {Q : O → Prop} : slotA (o :: δ) (i + 1) Q = slotA δ i Q := by unfold slotA; rw [List.getElem?_cons_succ]
theorem w_retV {i : Nat} : wp (exec cf N (.retV i) s δ) E = slotA δ i fun o => E.rt o s := by
  simp only [exec]; unfold slotA
  rcases hd : δ[i]? with _ | (_ | (d | xs | ⟨c, vs⟩)) <;> first | exact wp_no | exact wp_ret
theorem w_retN : wp (exec cf N .retN s δ) E = E.rt (.v .non) s := by simp only [exec]; (first | rfl | (simp only [sat_ok, sat_no, sat_exx, wp_nx, wp_bk, wp_ct, wp_ret, wp_no, wp_ex, Re.bind, Re.run, lift, lft]; done) | (simp only [sat_ok, sat_no, sat_exx, wp_nx, wp_bk, wp_ct, wp_ret, wp_no, wp_ex, Re.bind, Re.run, lift, lft]; rfl))
theorem w_exp {e : ME} : wp (exec cf N (.exp e) s δ) E = sat (evalE cf e δ s) fun d s1 => E.nx s1 δ := by simp only [exec, sat_run]; (first | rfl | (simp only [sat_ok, sat_no, sat_exx, wp_nx, wp_bk, wp_ct, wp_ret, wp_no, wp_ex, Re.bind, Re.run, lift, lft]; done) | (simp only [sat_ok, sat_no, sat_exx, wp_nx, wp_bk, wp_ct, wp_ret, wp_no, wp_ex, Re.bind, Re.run, lift, lft]; rfl))
theorem w_pass : wp (exec cf N .pass s δ) E = E.nx s δ := by simp only [exec]; (first | rfl | (simp only [sat_ok, sat_no, sat_exx, wp_nx, wp_bk, wp_ct, wp_ret, wp_no, wp_ex, Re.bind, Re.run, lift, lft]; done) | (simp only [sat_ok, sat_no, sat_exx, wp_nx, wp_bk, wp_ct, wp_ret, wp_no, wp_ex, Re.bind, Re.run, lift, lft]; rfl))
theorem w_brk : wp (exec cf N .brk s δ) E = E.bk s δ := by simp only [exec]; (first | rfl | (simp only [sat_ok, sat_no, sat_exx, wp_nx, wp_bk, wp_ct, wp_ret, wp_no, wp_ex, Re.bind, Re.run, lift, lft]; done) | (simp only [sat_ok, sat_no, sat_exx, wp_nx, wp_bk, wp_ct, wp_ret, wp_no, wp_ex, Re.bind, Re.run, lift, lft]; rfl))
theorem w_cont : wp (exec cf N .cont s δ) E = E.ct s δ := by simp only [exec]; (first | rfl | (simp only [sat_ok, sat_no, sat_exx, wp_nx, wp_bk, wp_ct, wp_ret, wp_no, wp_ex, Re.bind, Re.run, lift, lft]; done) | (simp only [sat_ok, sat_no, sat_exx, wp_nx, wp_bk, wp_ct, wp_ret, wp_no, wp_ex, Re.bind, Re.run, lift, lft]; rfl))
def frzL : Option O → Option O | some (.l xs) => some (.v (.lst xs)) | o => o
theorem w_frz {i : Nat} {o : Option O} (h : δ[i]? = some o) : wp (exec cf N (.frz i) s δ) E = E.nx s (δ.set i (frzL o)) := by
  simp only [exec, h]
  have same : δ.set i o = δ := by
    apply List.ext_getElem?
    intro j
    by_cases hj : i = j
    · subst hj
      rw [List.getElem?_set_self (by rcases List.getElem?_eq_some_iff.mp h with ⟨a, _⟩; exact a), h]
    · rw [List.getElem?_set_ne hj]
  cases o with
  | none => simp only [frzL, same]; (first | rfl | (simp only [sat_ok, sat_no, sat_exx, wp_nx, wp_bk, wp_ct, wp_ret, wp_no, wp_ex, Re.bind, Re.run, lift, lft]; done) | (simp only [sat_ok, sat_no, sat_exx, wp_nx, wp_bk, wp_ct, wp_ret, wp_no, wp_ex, Re.bind, Re.run, lift, lft]; rfl))
  | some o => cases o with
    | v d => simp only [frzL, same]; (first | rfl | (simp only [sat_ok, sat_no, sat_exx, wp_nx, wp_bk, wp_ct, wp_ret, wp_no, wp_ex, Re.bind, Re.run, lift, lft]; done) | (simp only [sat_ok, sat_no, sat_exx, wp_nx, wp_bk, wp_ct, wp_ret, wp_no, wp_ex, Re.bind, Re.run, lift, lft]; rfl))
    | l xs => exact wp_nx
    | x c vs => simp only [frzL, same]; exact wp_nx
/-- a run that ends well or lets an exception out -/
structure satX {α : Type} (r : Re α) (Q : α → Sto → Prop) (X : D → Sto → Prop) : Prop where
  out : match r with | .ok a s => Q a s | .ex x s => X x s | .no => False
theorem satX_ok {α : Type} {a : α} {s : Sto} {Q : α → Sto → Prop} {X : D → Sto → Prop} : satX (.ok a s) Q X = Q a s := propext ⟨fun h => h.out, fun h => ⟨h⟩⟩
theorem satX_ex {α : Type} {x : D} {s : Sto} {Q : α → Sto → Prop} {X : D → Sto → Prop} : satX (.ex x s : Re α) Q X = X x s := propext ⟨fun h => h.out, fun h => ⟨h⟩⟩
theorem satX_no {α : Type} {Q : α → Sto → Prop} {X : D → Sto → Prop} : satX (.no : Re α) Q X = False := propext ⟨fun h => h.out, fun h => h.elim⟩
theorem satX_sat {α : Type} {r : Re α} {Q : α → Sto → Prop} {X : D → Sto → Prop} (h : sat r Q) : satX r Q X := ⟨by have := h.out; cases r <;> first | exact this | exact this.elim⟩
theorem sat_satX {α : Type} {r : Re α} {Q : α → Sto → Prop} (h : satX r Q fun _ _ => False) : sat r Q := ⟨by have := h.out; cases r <;> first | exact this | exact this.elim⟩
theorem satX_mono {α : Type} {r : Re α} {Q Q' : α → Sto → Prop} {X X' : D → Sto → Prop} (h : satX r Q X) (k : ∀ a s, Q a s → Q' a s) (kx : ∀ x s, X x s → X' x s) : satX r Q' X' := ⟨by have := h.out; cases r <;> first | exact k _ _ this | exact kx _ _ this | exact this⟩
theorem w_cx {w : XW} {f : Nat} {es : MEs} : wp (exec cf N (.cx w f es) s δ) E = sat (evalEs cf es δ s) fun ds s1 => satX (cf f ds s1) (fun o s2 => wp (cxOk w o s2 δ) E) fun x s2 => E.ex x s2 δ := by
  simp only [exec, sat_run]
  congr 1; funext ds s1
  cases cf f ds s1 with
  | ok o s2 => rw [satX_ok]
  | ex x s2 => rw [satX_ex, wp_ex]
  | no => rw [satX_no, wp_no]
theorem cx_exp {o : O} {s : Sto} : wp (cxOk .exp o s δ) E = E.nx s δ := by simp only [cxOk]; exact wp_nx
theorem cx_asg {i : Nat} {o : O} {s : Sto} : wp (cxOk (.asg i) o s δ) E = E.nx s (δ.set i (some o)) := by simp only [cxOk]; exact wp_nx
theorem cx_ret {o : O} {s : Sto} : wp (cxOk .ret o s δ) E = E.rt o s := by simp only [cxOk]; exact wp_ret
theorem cx_tup {is : List Nat} {xs : List D} {s : Sto} : wp (cxOk (.tup is) (.v (.tup xs)) s δ) E = lft (setsL δ is xs) fun δ1 => E.nx s δ1 := by
  simp only [cxOk]
  cases setsL δ is xs with
  | none => exact wp_no
  | some d => exact wp_nx
theorem w_raisC {c : Nat} {es : MEs} : wp (exec cf N (.raisC c es) s δ) E = sat (evalEs cf es δ s) fun ds s1 => E.ex (.tup (.int (c : Int) :: ds)) s1 δ := by
  simp only [exec, sat_run, wp_ex]
theorem w_try {b : MSs} {hs : MHs} : wp (exec cf N (.tryS b hs) s δ) E = wp (execs cf N b s δ) ⟨E.nx, E.bk, E.ct, E.rt, fun x s1 δ1 => wp (handle cf N hs x s1 δ1) E⟩ := by
  simp only [exec]
  cases execs cf N b s δ <;> simp only [wp_nx, wp_bk, wp_ct, wp_ret, wp_no, wp_ex]
theorem h_nil {x : D} : wp (handle cf N .nil x s δ) E = E.ex x s δ := by simp only [handle]; exact wp_ex
theorem w_gone {i : Option Nat} {r : Rs} : wp (goneR i r) E = wp r ⟨fun s δ => E.nx s (goneL δ i), fun s δ => E.bk s (goneL δ i), fun s δ => E.ct s (goneL δ i), E.rt, fun _ _ _ => False⟩ := by
  cases r <;> simp only [goneR, wp_nx, wp_bk, wp_ct, wp_ret, wp_no, wp_ex]
theorem h_yes {y : Str} {tb : List (Nat × Bool)} {i : Option Nat} {b : MSs} {r : MHs} {c : Nat} {vs : List D} (h : tb.lookup c = some true) : wp (handle cf N (.cons y tb i b r) (.tup (.int (c : Int) :: vs)) s δ) E = wp (execs cf N b s (heldL δ c vs i)) ⟨fun s δ => E.nx s (goneL δ i), fun s δ => E.bk s (goneL δ i), fun s δ => E.ct s (goneL δ i), E.rt, fun _ _ _ => False⟩ := by
  simp only [handle, Int.toNat_natCast, h]
  exact w_gone
theorem h_next {y : Str} {tb : List (Nat × Bool)} {i : Option Nat} {b : MSs} {r : MHs} {c : Nat} {vs : List D} (h : tb.lookup c = some false) : wp (handle cf N (.cons y tb i b r) (.tup (.int (c : Int) :: vs)) s δ) E = wp (handle cf N r (.tup (.int (c : Int) :: vs)) s δ) E := by
  conv => lhs; simp only [handle, Int.toNat_natCast, h]
def slotX (δ : Lcs) (i : Nat) (Q : Nat → List D → Prop) : Prop := match δ[i]? with | some (some (.x c vs)) => Q c vs | _ => False
theorem slotX_0 {c : Nat} {vs : List D} {δ : Lcs} {Q : Nat → List D → Prop} : slotX (some (.x c vs) :: δ) 0 Q = Q c vs := rfl
theorem slotX_s {o : Option O} {i : Nat} {Q : Nat → List D → Prop} : slotX (o :: δ) (i + 1) Q = slotX δ i Q := by unfold slotX; rw [List.getElem?_cons_succ]
def oneD : List D → Option D | [v] => some v | _ => none
theorem oneD_1 {v : D} {Q : D → Prop} : lft (oneD [v]) Q = Q v := rfl
theorem e_xfl {i : Nat} {f : Str} {cs : List Nat} {Q : D → Sto → Prop} : sat (evalE cf (.xfl i f cs) δ s) Q = slotX δ i fun c vs => lft (oneD vs) fun v => (cs.contains c = true ∧ Q v s) := by
  simp only [evalE]
  unfold slotX
  rcases hd : δ[i]? with _ | (_ | (d | xs | ⟨c, vs⟩)) <;> try exact sat_no
  rcases vs with _ | ⟨v, _ | ⟨w, vs⟩⟩
  · exact sat_no
  · dsimp only
    show sat (if cs.contains c = true then .ok v s else .no) Q = (cs.contains c = true ∧ Q v s)
    by_cases h : cs.contains c = true
    · rw [if_pos h, sat_ok]; exact propext ⟨fun q => ⟨h, q⟩, fun q => q.2⟩
    · rw [if_neg h, sat_no]; exact propext ⟨fun q => q.elim, fun q => h q.1⟩
  · exact sat_no
theorem e_xis {i : Nat} {x : Str} {tb : List (Nat × Bool)} {Q : D → Sto → Prop} : sat (evalE cf (.xis i x tb) δ s) Q = slotX δ i fun c _ => lft (tb.lookup c) fun b => Q (.bl b) s := by
  simp only [evalE]
  unfold slotX
  rcases hd : δ[i]? with _ | (_ | (d | xs | ⟨c, vs⟩)) <;> try exact sat_no
  simp only [sat_lift, lft_map]
theorem e_xit {i : Nat} {tbs : List (Str × List (Nat × Bool))} {Q : D → Sto → Prop} : sat (evalE cf (.xit i tbs) δ s) Q = slotX δ i fun c _ => lft (anyT c tbs) fun b => Q (.bl b) s := by
  simp only [evalE]
  unfold slotX
  rcases hd : δ[i]? with _ | (_ | (d | xs | ⟨c, vs⟩)) <;> try exact sat_no
  simp only [sat_lift, lft_map]
end

section
variable {tg : MT} {b : Sto → Lcs → Rs} {E : En} {t : Wk}
theorem wp_for (hs : t.at_ = none) (Inv : List D → Sto → Lcs → Prop) (done : ∀ s δ, Inv [] s δ → E.nx s δ)
    (step : ∀ x xs s δ, Inv (x :: xs) s δ → ∃ δ1, bindT tg x δ = some δ1 ∧ wp (b s δ1) ⟨Inv xs, E.nx, Inv xs, E.rt, E.ex⟩) : ∀ (xs : List D) (s : Sto) (δ : Lcs), Inv xs s δ → wp (forGo t tg b xs s δ) E
  | [], s, δ, h => by
    simp only [forGo]
    rw [if_pos (by unfold Wk.still; rw [hs]; trivial)]
    rw [wp_nx]; exact done s δ h
  | x :: xs, s, δ, h => by
    simp only [forGo]
    rw [if_pos (by unfold Wk.still; rw [hs]; trivial)]
    obtain ⟨δ1, h1, h2⟩ := step x xs s δ h
    simp only [h1]
    revert h2
    cases b s δ1 with
    | nx s2 δ2 => exact fun h2 => wp_for hs Inv done step xs s2 δ2 (by simpa only [wp_nx, wp_ct] using h2)
    | ct s2 δ2 => exact fun h2 => wp_for hs Inv done step xs s2 δ2 (by simpa only [wp_nx, wp_ct] using h2)
    | bk s2 δ2 => exact fun h2 => by simpa only [wp_nx, wp_bk, wp_ct, wp_ret, wp_no, wp_ex] using h2
    | ret o s2 => exact fun h2 => by simpa only [wp_nx, wp_bk, wp_ct, wp_ret, wp_no, wp_ex] using h2
    | no => exact fun h2 => by simpa only [wp_nx, wp_bk, wp_ct, wp_ret, wp_no, wp_ex] using h2
    | ex a s2 => exact fun h2 => by simpa only [wp_nx, wp_bk, wp_ct, wp_ret, wp_no, wp_ex] using h2
/-- for i in range(..): the invariant by the number of turns -/
theorem wp_range {v : Nat} {lo : Int} (Inv : Nat → Sto → Lcs → Prop) {n : Nat} {s : Sto} {δ : Lcs} (h0 : Inv 0 s δ) (done : ∀ s δ, Inv n s δ → E.nx s δ)
    (step : ∀ i s δ, i < n → Inv i s δ → wp (b s (δ.set v (some (.v (.int (lo + (i : Int))))))) ⟨Inv (i + 1), E.nx, Inv (i + 1), E.rt, E.ex⟩) : wp (forGo ⟨upFrom lo n, none⟩ (.one v) b (upFrom lo n) s δ) E := by
  have key : ∀ k, k ≤ n → ∀ s δ, Inv k s δ → wp (forGo ⟨upFrom lo n, none⟩ (.one v) b ((upFrom lo n).drop k) s δ) E := by
    intro k hk s δ h
    refine wp_for (t := ⟨upFrom lo n, none⟩) rfl (fun xs s δ => ∃ j, j ≤ n ∧ xs = (upFrom lo n).drop j ∧ Inv j s δ) ?_ ?_ _ s δ ⟨k, hk, rfl, h⟩
    · rintro s δ ⟨j, hj, he, hi⟩
      have hl := congrArg List.length he
      simp [upFrom] at hl
      have : j = n := by omega
      subst this
      exact done s δ hi
    · rintro x xs s δ ⟨j, hj, he, hi⟩
      have hl := congrArg List.length he
      simp [upFrom] at hl
      have hlt : j < n := by omega
      have hd : (upFrom lo n).drop j = .int (lo + (j : Int)) :: (upFrom lo n).drop (j + 1) := by
        rw [List.drop_eq_getElem_cons (by simpa [upFrom] using hlt)]
        congr 1
        simp [upFrom]
      rw [hd] at he
      cases he
      refine ⟨_, rfl, wp_mono (step j s δ hlt hi) (fun s δ h => ⟨j + 1, hlt, rfl, h⟩) (fun _ _ h => h) (fun s δ h => ⟨j + 1, hlt, rfl, h⟩) fun _ _ h => h⟩
  have := key 0 (Nat.zero_le _) s δ h0
  rwa [List.drop_zero] at this
/-- while: the invariant by the turns that are left at most -/
theorem wp_while {c : Lcs → Sto → Re Bool} (Inv : Nat → Sto → Lcs → Prop)
    (step : ∀ n s δ, Inv n s δ → sat (c δ s) fun k s1 => if k = true then wp (b s1 δ) ⟨fun s2 δ2 => ∃ m, m < n ∧ Inv m s2 δ2, E.nx, fun s2 δ2 => ∃ m, m < n ∧ Inv m s2 δ2, E.rt, E.ex⟩ else E.nx s1 δ) :
    ∀ (N n : Nat) (s : Sto) (δ : Lcs), n < N → Inv n s δ → wp (whlGo c b N s δ) E
  | 0, n, s, δ, hn, h => by omega
  | N + 1, n, s, δ, hn, h => by
    simp only [whlGo, sat_run]
    refine sat_mono (step n s δ h) fun k s1 q => ?_
    cases k with
    | false => rw [if_neg Bool.false_ne_true] at q ⊢; rw [wp_nx]; exact q
    | true =>
      rw [if_pos rfl] at q ⊢
      revert q
      cases b s1 δ with
      | nx s2 δ2 => exact fun q => (by simpa only [wp_nx, wp_ct] using q : ∃ m, m < n ∧ Inv m s2 δ2).elim fun m z => wp_while Inv step N m s2 δ2 (by omega) z.2
      | ct s2 δ2 => exact fun q => (by simpa only [wp_nx, wp_ct] using q : ∃ m, m < n ∧ Inv m s2 δ2).elim fun m z => wp_while Inv step N m s2 δ2 (by omega) z.2
      | bk s2 δ2 => exact fun h2 => by simpa only [wp_nx, wp_bk, wp_ct, wp_ret, wp_no, wp_ex] using h2
      | ret o s2 => exact fun h2 => by simpa only [wp_nx, wp_bk, wp_ct, wp_ret, wp_no, wp_ex] using h2
      | no => exact fun h2 => by simpa only [wp_nx, wp_bk, wp_ct, wp_ret, wp_no, wp_ex] using h2
      | ex a s2 => exact fun h2 => by simpa only [wp_nx, wp_bk, wp_ct, wp_ret, wp_no, wp_ex] using h2
/-- a comprehension that leaves the store -/
theorem sat_comp {g : D → Sto → Re (Option D)} {s : Sto} {Q : List D → Sto → Prop} (hs : t.still s) (f : D → Option D) : ∀ {xs : List D}, (∀ x ∈ xs, sat (g x s) fun o s1 => o = f x ∧ s1 = s) → Q (xs.filterMap f) s → sat (compGo t g xs s) Q
  | [], hg, hq => by
    simp only [compGo]
    rw [if_pos hs, sat_ok]
    exact hq
  | x :: xs, hg, hq => by
    simp only [compGo]
    rw [if_pos hs, sat_bind]
    refine sat_mono (hg x List.mem_cons_self) fun o s1 h => ?_
    obtain ⟨rfl, rfl⟩ := h
    rw [sat_bind]
    refine sat_comp hs f (fun y hy => hg y (List.mem_cons_of_mem _ hy)) ?_
    rw [sat_ok]
    have : (f x).toList ++ xs.filterMap f = (x :: xs).filterMap f := by
      rw [List.filterMap_cons]
      cases f x <;> (first | rfl | (simp only [sat_ok, sat_no, sat_exx, wp_nx, wp_bk, wp_ct, wp_ret, wp_no, wp_ex, Re.bind, Re.run, lift, lft]; done) | (simp only [sat_ok, sat_no, sat_exx, wp_nx, wp_bk, wp_ct, wp_ret, wp_no, wp_ex, Re.bind, Re.run, lift, lft]; rfl))
    rw [this]
    exact hq
/-- a comprehension by an invariant -/
theorem sat_compI {g : D → Sto → Re (Option D)} {Q : List D → Sto → Prop} (hs : t.at_ = none) (Inv : List D → List D → Sto → Prop) (done : ∀ ys s, Inv [] ys s → Q ys s)
    (step : ∀ x xs ys s, Inv (x :: xs) ys s → sat (g x s) fun o s1 => Inv xs (ys ++ o.toList) s1) : ∀ (xs ys : List D) (s : Sto), Inv xs ys s → sat (compGo t g xs s) fun zs s1 => Q (ys ++ zs) s1
  | [], ys, s, h => by
    simp only [compGo]
    rw [if_pos (by unfold Wk.still; rw [hs]; trivial), sat_ok, List.append_nil]
    exact done ys s h
  | x :: xs, ys, s, h => by
    simp only [compGo]
    rw [if_pos (by unfold Wk.still; rw [hs]; trivial), sat_bind]
    refine sat_mono (step x xs ys s h) fun o s1 h1 => ?_
    rw [sat_bind]
    refine sat_mono (sat_compI hs Inv done step xs (ys ++ o.toList) s1 h1) fun zs s2 h2 => ?_
    rw [sat_ok, ← List.append_assoc]
    exact h2
/-- a call -/
theorem sat_call {P : Pg} {k f : Nat} {m : MFun} {ds : List D} {s : Sto} {Q : O → Sto → Prop} {δ : Lcs} (hf : P.funs[f]? = some m) (hl : ds.length = m.np) (hδ : ds.map (fun d => some (O.v d)) ++ List.replicate (m.ns - m.np) none = δ)
    (h : wp (execs (call P k) P.N m.body s δ) ⟨fun s _ => Q (.v .non) s, fun _ _ => False, fun _ _ => False, Q, fun _ _ _ => False⟩) : sat (call P (k + 1) f ds s) Q := by
  simp only [call, hf]
  rw [if_pos hl, hδ]
  revert h
  cases execs (call P k) P.N m.body s δ <;> exact fun h => by simpa only [wp_nx, wp_bk, wp_ct, wp_ret, wp_no, wp_ex, sat_ok, sat_no, sat_exx] using h
/-- a call that may raise -/
theorem satX_call {P : Pg} {k f : Nat} {m : MFun} {ds : List D} {s : Sto} {Q : O → Sto → Prop} {X : D → Sto → Prop} {δ : Lcs} (hf : P.funs[f]? = some m) (hl : ds.length = m.np) (hδ : ds.map (fun d => some (O.v d)) ++ List.replicate (m.ns - m.np) none = δ)
    (h : wp (execs (call P k) P.N m.body s δ) ⟨fun s _ => Q (.v .non) s, fun _ _ => False, fun _ _ => False, Q, fun x s _ => X x s⟩) : satX (call P (k + 1) f ds s) Q X := by
  simp only [call, hf]
  rw [if_pos hl, hδ]
  revert h
  cases execs (call P k) P.N m.body s δ <;> exact fun h => by simpa only [wp_nx, wp_bk, wp_ct, wp_ret, wp_no, wp_ex, satX_ok, satX_no, satX_ex] using h
end
theorem mul_ok {i j : Int} (hi : i.natAbs < 2 ^ 400) (hj : j.natAbs < 2 ^ 400) : mulOk i j := by
  have lg : ∀ n : Nat, n < 2 ^ 400 → n.log2 ≤ 400 := fun n h => by
    by_cases h0 : n = 0
    · subst h0; simp
    · exact Nat.le_of_lt ((Nat.log2_lt h0).mpr h)
  have h1 := lg _ hi
  have h2 := lg _ hj
  show i.natAbs.log2 + j.natAbs.log2 < 1000000
  omega
theorem log_ok {j : Int} (hj : j.natAbs < 2 ^ 400) : j.natAbs.log2 < 9000 := by
  by_cases h0 : j.natAbs = 0
  · rw [h0]; decide
  · have := (Nat.log2_lt h0).mpr hj
    omega
theorem b_add {i j : Int} {Q : D → Prop} : lft (binD .add (.int i) (.int j)) Q = Q (.int (i + j)) := rfl
theorem b_sub {i j : Int} {Q : D → Prop} : lft (binD .sub (.int i) (.int j)) Q = Q (.int (i - j)) := rfl
theorem b_mul {i j : Int} {Q : D → Prop} : lft (binD .mul (.int i) (.int j)) Q = (mulOk i j ∧ Q (.int (i * j))) := by
  show lft (if mulOk i j then some (.int (i * j)) else none) Q = _
  rw [lft_iteN]; rfl
theorem b_fdiv {i j : Int} {Q : D → Prop} : lft (binD .fdiv (.int i) (.int j)) Q = ((0 < j ∧ j.natAbs.log2 < 9000) ∧ Q (.int (i / j))) := by
  show lft (if 0 < j ∧ j.natAbs.log2 < 9000 then some (.int (i / j)) else none) Q = _
  rw [lft_iteN]; rfl
theorem b_mod {i j : Int} {Q : D → Prop} : lft (binD .mod (.int i) (.int j)) Q = (0 < j ∧ Q (.int (i % j))) := by
  show lft (if 0 < j then some (.int (i % j)) else none) Q = _
  rw [lft_iteN]; rfl
theorem b_pow {i j : Int} {Q : D → Prop} : lft (binD .pow (.int i) (.int j)) Q = ((0 ≤ j ∧ ((i.natAbs.log2 + 1 : Nat) : Int) * j ≤ 1000000) ∧ Q (.int (i ^ j.toNat))) := by
  show lft (if 0 ≤ j ∧ ((i.natAbs.log2 + 1 : Nat) : Int) * j ≤ 1000000 then some (.int (i ^ j.toNat)) else none) Q = _
  rw [lft_iteN]; rfl
theorem c_ltT {xs ys : List D} {s : Sto} {Q : Bool → Prop} : lft (cmpD .lt s (.tup xs) (.tup ys)) Q = ((D.plainL xs = true ∧ D.plainL ys = true ∧ D.depL xs ≤ 30 ∧ D.cokL xs ys = true) ∧ Q (D.ltL xs ys)) := by
  simp only [cmpD]
  exact lft_iteN
theorem c_lt {i j : Int} {s : Sto} {Q : Bool → Prop} : lft (cmpD .lt s (.int i) (.int j)) Q = Q (decide (i < j)) := rfl
theorem c_le {i j : Int} {s : Sto} {Q : Bool → Prop} : lft (cmpD .le s (.int i) (.int j)) Q = Q (decide (i ≤ j)) := rfl
theorem c_gt {i j : Int} {s : Sto} {Q : Bool → Prop} : lft (cmpD .gt s (.int i) (.int j)) Q = Q (decide (j < i)) := rfl
theorem c_ge {i j : Int} {s : Sto} {Q : Bool → Prop} : lft (cmpD .ge s (.int i) (.int j)) Q = Q (decide (j ≤ i)) := rfl
theorem c_eq {i j : Int} {s : Sto} {Q : Bool → Prop} : lft (cmpD .eq s (.int i) (.int j)) Q = Q (decide (i = j)) := rfl
theorem c_ne {i j : Int} {s : Sto} {Q : Bool → Prop} : lft (cmpD .ne s (.int i) (.int j)) Q = Q (!decide (i = j)) := rfl
theorem x_lst {xs : List D} {i : Int} {s : Sto} {Q : D → Prop} : lft (idxD s (.lst xs) (.int i)) Q = lft (atI xs i) Q := rfl
theorem x_tup {xs : List D} {i : Int} {s : Sto} {Q : D → Prop} : lft (idxD s (.tup xs) (.int i)) Q = lft (atI xs i) Q := rfl
theorem x_ref {n : Nat} {xs : List D} {i : Int} {s : Sto} {Q : D → Prop} (h : s.c[n]? = some (.L xs)) : lft (idxD s (.ref n) (.int i)) Q = lft (atI xs i) Q := by
  show lft ((seqD s (.ref n)).bind fun xs => atI xs i) Q = _
  simp only [seqD, h]
  rfl
theorem atI_at {α : Type} {xs : List α} {i : Int} (h0 : 0 ≤ i) (h1 : i < xs.length) : ∃ x, atI xs i = some x ∧ x ∈ xs ∧ xs[i.toNat]? = some x := by
  have hl : i.toNat < xs.length := by omega
  refine ⟨xs[i.toNat], ?_, List.getElem_mem _, List.getElem?_eq_getElem hl⟩
  unfold atI ixN
  rw [if_pos h0, if_pos h1]
  exact List.getElem?_eq_getElem hl
theorem lft_at {α : Type} {xs : List α} {i : Int} {Q : α → Prop} (h0 : 0 ≤ i) (h1 : i < xs.length) (q : ∀ x ∈ xs, Q x) : lft (atI xs i) Q := by
  obtain ⟨x, h, hm, _⟩ := atI_at h0 h1
  rw [h]
  exact q x hm
theorem len_lst {xs : List D} {s : Sto} {Q : D → Prop} : lft (biD .len s [.lst xs]) Q = Q (.int xs.length) := rfl
theorem len_tup {xs : List D} {s : Sto} {Q : D → Prop} : lft (biD .len s [.tup xs]) Q = Q (.int xs.length) := rfl
theorem bi_abs {i : Int} {s : Sto} {Q : D → Prop} : lft (biD .abs s [.int i]) Q = Q (.int (if i < 0 then -i else i)) := rfl
theorem bi_max2 {i j : Int} {s : Sto} {Q : D → Prop} : lft (biD .max2 s [.int i, .int j]) Q = Q (.int (if i < j then j else i)) := rfl
theorem bi_min2 {i j : Int} {s : Sto} {Q : D → Prop} : lft (biD .min2 s [.int i, .int j]) Q = Q (.int (if j < i then j else i)) := rfl
theorem bi_min3 {i j k : Int} {s : Sto} {Q : D → Prop} : lft (biD .min3 s [.int i, .int j, .int k]) Q = Q (.int (minI i [j, k])) := rfl
theorem bi_max3 {i j k : Int} {s : Sto} {Q : D → Prop} : lft (biD .max3 s [.int i, .int j, .int k]) Q = Q (.int (maxI i [j, k])) := rfl
theorem minI_2 {i j k : Int} : minI i [j, k] = if k < (if j < i then j else i) then k else (if j < i then j else i) := rfl
theorem maxI_2 {i j k : Int} : maxI i [j, k] = if (if i < j then j else i) < k then k else (if i < j then j else i) := rfl
theorem is_int {i : Int} {s : Sto} {t : Ty} {Q : Bool → Prop} : lft (isiD s (.int i) t) Q = Q (match t with | .int => true | _ => false) := rfl
theorem is_lst {xs : List D} {s : Sto} {t : Ty} {Q : Bool → Prop} : lft (isiD s (.lst xs) t) Q = Q (match t with | .lst => true | _ => false) := rfl
theorem tr_bl {b : Bool} {s : Sto} {Q : Bool → Prop} : lft (truth s (.bl b)) Q = Q b := rfl
theorem tr_int {i : Int} {s : Sto} {Q : Bool → Prop} : lft (truth s (.int i)) Q = Q (i != 0) := rfl
theorem tr_lst {xs : List D} {s : Sto} {Q : Bool → Prop} : lft (truth s (.lst xs)) Q = Q (!xs.isEmpty) := rfl
theorem ne_int {i : Int} {Q : D → Prop} : lft (negD (.int i)) Q = Q (.int (-i)) := rfl
theorem it_lst {xs : List D} {s : Sto} {Q : Wk → Prop} : lft (itsOf s (.lst xs)) Q = Q ⟨xs, none⟩ := rfl
theorem it_tup {xs : List D} {s : Sto} {Q : Wk → Prop} : lft (itsOf s (.tup xs)) Q = Q ⟨xs, none⟩ := rfl
theorem om_app {xs : List D} {d : D} {Q : List D × D → Prop} : lft (omD .append xs [d]) Q = (xs.length < line ∧ Q (xs ++ [d], .non)) := by
  show lft (if xs.length < line then some (xs ++ [d], .non) else none) Q = _
  rw [lft_iteN]; rfl
theorem dr_lst {xs : List D} {s : Sto} : deref s (.lst xs) = .lst xs := rfl
theorem sd_lst {xs : List D} {s : Sto} : seqD s (.lst xs) = some xs := rfl
theorem sd_tup {xs : List D} {s : Sto} : seqD s (.tup xs) = some xs := rfl
theorem sd_ref {n : Nat} {xs : List D} {s : Sto} (h : s.c[n]? = some (.L xs)) : seqD s (.ref n) = some xs := by simp only [seqD, h]
theorem len_ref {n : Nat} {xs : List D} {s : Sto} {Q : D → Prop} (h : s.c[n]? = some (.L xs)) : lft (biD .len s [.ref n]) Q = Q (.int xs.length) := by
  show lft ((seqD s (.ref n)).map fun xs => D.int xs.length) Q = _
  rw [sd_ref h]; rfl
theorem au_add {i j : Int} {Q : D → Prop} : lft (augD .add (.int i) (.int j)) Q = Q (.int (i + j)) := rfl
theorem au_sub {i j : Int} {Q : D → Prop} : lft (augD .sub (.int i) (.int j)) Q = Q (.int (i - j)) := rfl
theorem e_join {cf : Nat → List D → Sto → Re O} {δ : Lcs} {s : Sto} {Q : D → Sto → Prop} {m : BM} {o : ME} {es : MEs} : sat (evalE cf (.bm m o es) δ s) Q = sat (evalE cf o δ s) fun x s1 => sat (evalEs cf es δ s1) fun ds s2 => lft (bmD m s2 x ds) fun z => Q z s2 := by
  simp only [evalE, sat_bind, sat_lift]
theorem e_dct0 {cf : Nat → List D → Sto → Re O} {δ : Lcs} {s : Sto} {Q : D → Sto → Prop} : sat (evalE cf .dct0 δ s) Q = Q (.dct []) s := by simp only [evalE, sat_ok]
theorem e_dct1 {cf : Nat → List D → Sto → Re O} {δ : Lcs} {s : Sto} {Q : D → Sto → Prop} {z : List Nat} {i : Int} : sat (evalE cf (.dct1 z i) δ s) Q = Q (.dct [(.str z, .int i)]) s := by simp only [evalE, sat_ok]
theorem bi_tupL {xs : List D} {s : Sto} {Q : D → Prop} : lft (biD .tuple s [.lst xs]) Q = Q (.tup xs) := rfl
theorem bi_tupT {xs : List D} {s : Sto} {Q : D → Prop} : lft (biD .tuple s [.tup xs]) Q = Q (.tup xs) := rfl
theorem w_ifF {cf : Nat → List D → Sto → Re O} {N : Nat} {δ : Lcs} {s : Sto} {E : En} {c : MQ} {a b : MSs} (h : sat (evalT cf c δ s) fun k s1 => k = false ∧ s1 = s) (h2 : wp (execs cf N b s δ) E) : wp (exec cf N (.ifS c a b) s δ) E := by
  rw [w_if]
  refine sat_mono h fun k s1 q => ?_
  obtain ⟨rfl, rfl⟩ := q
  rw [if_neg Bool.false_ne_true]
  exact h2
theorem w_ifB {cf : Nat → List D → Sto → Re O} {N : Nat} {δ : Lcs} {s : Sto} {E : En} {c : MQ} {a b : MSs} (t : Bool) (h : sat (evalT cf c δ s) fun k s1 => k = t ∧ s1 = s) (h1 : t = true → wp (execs cf N a s δ) E) (h2 : t = false → wp (execs cf N b s δ) E) : wp (exec cf N (.ifS c a b) s δ) E := by
  rw [w_if]
  refine sat_mono h fun k s1 q => ?_
  obtain ⟨rfl, rfl⟩ := q
  cases k with
  | true => rw [if_pos rfl]; exact h1 rfl
  | false => rw [if_neg Bool.false_ne_true]; exact h2 rfl
theorem lg_pow {n e : Nat} (h : n < 2 ^ e) : n.log2 ≤ e := by
  by_cases h0 : n = 0
  · subst h0; simp
  · exact Nat.le_of_lt ((Nat.log2_lt h0).mpr h)
theorem mul_ok' {i j : Int} {a b : Nat} (hi : i.natAbs < 2 ^ a) (hj : j.natAbs < 2 ^ b) (h : a + b < 1000000) : mulOk i j := by
  have h1 := lg_pow hi
  have h2 := lg_pow hj
  show i.natAbs.log2 + j.natAbs.log2 < 1000000
  omega

/-! ### sorted by keys -/
theorem sortOk_iff {ks : List D} : sortOk ks = true ↔ (∀ k ∈ ks, k.plain = true ∧ k.dep ≤ 30) ∧ (∀ a ∈ ks, ∀ b ∈ ks, D.cok a b = true) ∧ keyHom ks = true := by
  unfold sortOk
  simp only [Bool.and_eq_true, List.all_eq_true, decide_eq_true_eq]
  exact ⟨fun h => ⟨h.1.1, h.1.2, h.2⟩, fun h => ⟨⟨h.1, h.2.1⟩, h.2.2⟩⟩
theorem sortKD_spec {ks xs : List D} (ok : sortOk ks = true) : ∃ ps : List (D × D), ps.Perm (ks.zip xs) ∧ sortKD ks xs = ps.map (·.2) ∧ ps.Pairwise fun p q => D.lt q.1 p.1 = false := by
  obtain ⟨h1, h2, _⟩ := sortOk_iff.mp ok
  have tot := PySem.W.sortLe_total (PyProof.Rows.listOrd PyProof.Rows.itemOrd) false fun p : D × D => PySem.W.keyToks p.1.py
  refine ⟨(ks.zip xs).mergeSort keyLeD, List.mergeSort_perm _ _, rfl, ?_⟩
  have pw := PySem.W.sort_pairwise tot (ks.zip xs)
  have mem : ∀ p ∈ (ks.zip xs).mergeSort keyLeD, p.1 ∈ ks := fun p hp => (List.of_mem_zip (a := p.1) (b := p.2) ((List.mergeSort_perm _ _).mem_iff.mp hp)).1
  refine List.Pairwise.imp_of_mem (fun {p q} hp hq h => ?_) pw
  have h' : keyLeD p q = true := h
  unfold keyLeD at h'
  rw [lt_py q.1 p.1 (h1 _ (mem q hq)).1 (h1 _ (mem p hp)).1 (h2 _ (mem q hq) _ (mem p hp))] at h'
  simpa using h'
theorem sortKD_by {k : D → D} {xs : List D} (ok : sortOk (xs.map k) = true) : (sortKD (xs.map k) xs).Perm xs ∧ (sortKD (xs.map k) xs).Pairwise fun a b => D.lt (k b) (k a) = false := by
  obtain ⟨ps, h1, h2, h3⟩ := sortKD_spec (xs := xs) ok
  have hz : (xs.map k).zip xs = xs.map fun x => (k x, x) := by
    rw [List.zip_map_left]
    induction xs with
    | nil => rfl
    | cons x xs ih => simp [List.zip]
  have key : ∀ p ∈ ps, p.1 = k p.2 := fun p hp => by
    have := h1.mem_iff.mp hp
    rw [hz] at this
    obtain ⟨x, _, rfl⟩ := List.mem_map.mp this
    rfl
  rw [h2]
  refine ⟨?_, ?_⟩
  · have := h1.map Prod.snd
    rw [hz, List.map_map] at this
    simpa [Function.comp_def] using this
  · rw [List.pairwise_map]
    refine List.Pairwise.imp_of_mem (fun {p q} hp hq h => ?_) h3
    rw [key p hp, key q hq] at h
    exact h
/-- parts of a block, by place -/
def _root_.Mn.MSs.at : MSs → Nat → MS | .nil, _ => .pass | .cons s _, 0 => s | .cons _ r, n + 1 => MSs.at r n
def _root_.Mn.MSs.dr : MSs → Nat → MSs | m, 0 => m | .nil, _ + 1 => .nil | .cons _ r, n + 1 => MSs.dr r n
def _root_.Mn.MS.bd : MS → MSs | .forS _ _ b => b | .whl _ b => b | .ifS _ a _ => a | .tryS b _ => b | _ => .nil
def _root_.Mn.MS.el : MS → MSs | .ifS _ _ b => b | _ => .nil
end Mn
set_option Elab.async false
set_option linter.all false
set_option maxRecDepth 100000
set_option maxHeartbeats 4000000
/-! The laws' common defs: a hand is opened, drawn from. -/
namespace Mn
open PySem L2 PyProof.Rows

theorem p10_6 : (10 : Int) ^ (6 : Int).toNat = 1000000 := by decide
theorem p10_9 : (10 : Int) ^ (9 : Int).toNat = 1000000000 := by decide
theorem p10_11 : (10 : Int) ^ (11 : Int).toNat = 100000000000 := by decide
theorem p10_12 : (10 : Int) ^ (12 : Int).toNat = 1000000000000 := by decide
theorem p10_18 : (10 : Int) ^ (18 : Int).toNat = 1000000000000000000 := by decide
/-- a hand in the n-th cell, from which b more can be drawn -/
def Hand (s : Sto) (n b : Nat) : Prop := ∃ (a p : Int) (l : List Int), s.c[n]? = some (.L [.int a, .int p, .lst (intL l)]) ∧ 0 ≤ p ∧ p + (b : Int) ≤ 2 ^ 100 ∧ l ≠ []
def Oth (n : Nat) (s s' : Sto) : Prop := s'.c.length = s.c.length ∧ ∀ m, m ≠ n → s'.c[m]? = s.c[m]?
theorem Hand.less {s : Sto} {n b b' : Nat} (h : Hand s n b) (hb : b' ≤ b) : Hand s n b' := by
  obtain ⟨a, p, l, h1, h2, h3, h4⟩ := h
  exact ⟨a, p, l, h1, h2, by omega, h4⟩
theorem Oth.refl (n : Nat) (s : Sto) : Oth n s s := ⟨rfl, fun _ _ => rfl⟩
theorem Oth.trans {n : Nat} {s s' s'' : Sto} (a : Oth n s s') (b : Oth n s' s'') : Oth n s s'' := ⟨b.1.trans a.1, fun m h => (b.2 m h).trans (a.2 m h)⟩
theorem Oth.set {n : Nat} {s : Sto} {c : Cell} {w : Nat} : Oth n s ⟨s.c.set n c, w⟩ := ⟨by simp, fun m h => by simp [List.getElem?_set_ne (Ne.symm h)]⟩
theorem intL_length (l : List Int) : (intL l).length = l.length := by simp [intL]
theorem intL_mem {l : List Int} {d : D} (h : d ∈ intL l) : ∃ i, d = .int i ∧ i ∈ l := by
  obtain ⟨i, hi, rfl⟩ := List.mem_map.mp h
  exact ⟨i, rfl, hi⟩
theorem at_0 {x : D} {xs : List D} : atI (x :: xs) 0 = some x := by
  unfold atI ixN; rw [if_pos (by omega), if_pos (by simp only [List.length_cons]; omega)]; rfl
theorem at_1 {x y : D} {xs : List D} : atI (x :: y :: xs) 1 = some y := by
  unfold atI ixN; rw [if_pos (by omega), if_pos (by simp only [List.length_cons]; omega)]; rfl
theorem at_2 {x y z : D} {xs : List D} : atI (x :: y :: z :: xs) 2 = some z := by
  unfold atI ixN; rw [if_pos (by omega), if_pos (by simp only [List.length_cons]; omega)]; rfl
theorem set_0 {x d : D} {xs : List D} : setAt (x :: xs) (.int 0) d = some (d :: xs) := by
  show (ixN _ 0).map _ = _
  unfold ixN; rw [if_pos (by omega), if_pos (by simp only [List.length_cons]; omega)]; rfl
theorem set_1 {x y d : D} {xs : List D} : setAt (x :: y :: xs) (.int 1) d = some (x :: d :: xs) := by
  show (ixN _ 1).map _ = _
  unfold ixN; rw [if_pos (by omega), if_pos (by simp only [List.length_cons]; omega)]; rfl
def b_draw : MSs := (.cons 
  (.ifS (.cmpQ .gt (.idx (.var 0) (.int 0)) (.int 0)) (.cons 
  (.asg 4 (.bin .mod (.idx (.var 0) (.int 0)) (.var 1))) (.cons 
  (.setC (.var 0) (.int 0) (.bin .fdiv (.idx (.var 0) (.int 0)) (.var 1))) (.cons 
  (.ret (.var 4)) .nil))) .nil) (.cons 
  (.augC (.var 0) (.int 1) .add (.int 1)) (.cons 
  (.asg 2 (.bin .mod (.idx (.idx (.var 0) (.int 2)) (.bin .mod (.idx (.var 0) (.int 1)) (.bi .len (.cons (.idx (.var 0) (.int 2)) .nil)))) (.int 2147483647))) (.cons 
  (.asg 3 (.bin .mod (.bin .add (.bin .add (.bin .mul (.var 2) (.int 48271)) (.bin .mul (.idx (.var 0) (.int 1)) (.int 7368787))) (.int 11)) (.int 998244353))) (.cons 
  (.asg 3 (.bin .mod (.bin .add (.bin .mul (.var 3) (.var 3)) (.idx (.var 0) (.int 1))) (.int 998244353))) (.cons 
  (.asg 3 (.bin .mod (.bin .add (.bin .mul (.var 3) (.int 40503203)) (.int 12345)) (.int 2147483647))) (.cons 
  (.ret (.bin .mod (.bin .fdiv (.bin .mod (.bin .mul (.var 3) (.var 3)) (.int 1000000007)) (.int 64)) (.var 1))) .nil)))))))
theorem small400 {i : Int} (h0 : -(2 ^ 130) ≤ i) (h1 : i ≤ 2 ^ 130) : i.natAbs < 2 ^ 400 := by
  have : (2 : Nat) ^ 130 < 2 ^ 400 := Nat.pow_lt_pow_right (by decide) (by decide)
  generalize (2 : Nat) ^ 400 = z at this ⊢
  have h2 : i.natAbs ≤ 2 ^ 130 := by
    have : ((2 : Nat) ^ 130 : Nat) = ((2 : Int) ^ 130).natAbs := by decide
    omega
  omega
theorem mul130 {i j : Int} (h0 : -(2 ^ 130) ≤ i) (h1 : i ≤ 2 ^ 130) (h2 : -(2 ^ 130) ≤ j) (h3 : j ≤ 2 ^ 130) : mulOk i j := mul_ok (small400 h0 h1) (small400 h2 h3)
theorem sat_draw {P : Pg} {f k n b : Nat} {m : Int} {s : Sto} {Q : O → Sto → Prop} (hf : P.funs[f]? = some ⟨2, 5, b_draw⟩) (h : Hand s n (b + 1)) (hm : 0 < m) (hm2 : m ≤ 2 ^ 130)
    (q : ∀ r s', 0 ≤ r → r < m → Hand s' n b → Oth n s s' → Q (.v (.int r)) s') : sat (call P (k + 1) f [.ref n, .int m] s) Q := by
  obtain ⟨a, p, l, hc, hp, hpb, hl⟩ := h
  have hn : n < s.c.length := by
    rcases List.getElem?_eq_some_iff.mp hc with ⟨h, _⟩; exact h
  have hll : 0 < (l.length : Int) := by
    have := List.length_pos_iff.mpr hl; omega
  refine sat_call (δ := [_, _, none, none, none]) hf rfl rfl ?_
  simp only [b_draw]
  rw [w_cons]
  simp only [sat_ok, e_int, e_str, e_non, e_bl, e_gc, e_var, e_bin, e_neg, e_cmp, e_chain, e_and, e_or, e_not, e_ife, e_tup, e_idx, e_cutS, e_fz, frz_v, frz_l, e_peek, e_bi, e_isi, e_dft, e_new, e_join, e_dct0, e_dct1, bi_tupL, bi_tupT, es_nil, es_cons, t_and, t_or, t_not, t_cmp, t_chain, t_val, t_yes, ta_1, ta_s, to_1, to_s, ea_1, ea_s, eo_1, eo_s, p_none, p_some, intP_int, f_lst, f_cutL, f_rev, f_cat, f_listOf, f_call, f_repE, f_lrange, i_zip, f_sorted, f_sortSet, f_sortK, c_ltT, e_newI, e_peekI, e_isiC, e_lenSet, f_meth, i_seq, i_r1, i_r2, i_r3, slot_0, slot_s, slotO_0, slotO_s, slotA_0, slotA_s, b_add, b_sub, b_mul, b_fdiv, b_mod, b_pow, c_lt, c_le, c_gt, c_ge, c_eq, c_ne, x_lst, x_tup, len_lst, len_tup, bi_abs, bi_max2, bi_min2, bi_min3, bi_max3, is_int, is_lst, tr_bl, tr_int, tr_lst, ne_int, it_lst, it_tup, om_app, dr_lst, sd_lst, sd_tup, lstD_lst, tupD_tup, lO_l, lft_some, lft_map, lft_bind, au_add, au_sub, List.set_cons_zero, List.set_cons_succ, decide_eq_true_eq, Bool.not_eq_true', Bool.false_eq_true, Bool.true_eq_false, if_true, if_false, List.map_cons, List.map_nil, p10_6, p10_9, p10_11, p10_12, p10_18, w_nil, w_asg, w_asgO, w_asgC, w_asgT, w_par, w_aug, w_setC, w_augC, w_setO, w_augO, w_mtO, w_mtC, w_if, w_for, w_ret, w_retF, w_retV, w_retN, w_exp, w_pass, w_brk, w_cont, x_ref hc, at_0]
  by_cases ha : 0 < a
  · rw [if_pos ha]
    simp only [w_cons, sat_ok, e_int, e_str, e_non, e_bl, e_gc, e_var, e_bin, e_neg, e_cmp, e_chain, e_and, e_or, e_not, e_ife, e_tup, e_idx, e_cutS, e_fz, frz_v, frz_l, e_peek, e_bi, e_isi, e_dft, e_new, e_join, e_dct0, e_dct1, bi_tupL, bi_tupT, es_nil, es_cons, t_and, t_or, t_not, t_cmp, t_chain, t_val, t_yes, ta_1, ta_s, to_1, to_s, ea_1, ea_s, eo_1, eo_s, p_none, p_some, intP_int, f_lst, f_cutL, f_rev, f_cat, f_listOf, f_call, f_repE, f_lrange, i_zip, f_sorted, f_sortSet, f_sortK, c_ltT, e_newI, e_peekI, e_isiC, e_lenSet, f_meth, i_seq, i_r1, i_r2, i_r3, slot_0, slot_s, slotO_0, slotO_s, slotA_0, slotA_s, b_add, b_sub, b_mul, b_fdiv, b_mod, b_pow, c_lt, c_le, c_gt, c_ge, c_eq, c_ne, x_lst, x_tup, len_lst, len_tup, bi_abs, bi_max2, bi_min2, bi_min3, bi_max3, is_int, is_lst, tr_bl, tr_int, tr_lst, ne_int, it_lst, it_tup, om_app, dr_lst, sd_lst, sd_tup, lstD_lst, tupD_tup, lO_l, lft_some, lft_map, lft_bind, au_add, au_sub, List.set_cons_zero, List.set_cons_succ, decide_eq_true_eq, Bool.not_eq_true', Bool.false_eq_true, Bool.true_eq_false, if_true, if_false, List.map_cons, List.map_nil, p10_6, p10_9, p10_11, p10_12, p10_18, w_nil, w_asg, w_asgO, w_asgC, w_asgT, w_par, w_aug, w_setC, w_augC, w_setO, w_augO, w_mtO, w_mtC, w_if, w_for, w_ret, w_retF, w_retV, w_retN, w_exp, w_pass, w_brk, w_cont, x_ref hc, at_0, celL_of hc, set_0]
    refine ⟨hm, ⟨hm, log_ok (small400 (by omega) hm2)⟩, ?_⟩
    exact q _ _ (Int.emod_nonneg _ (by omega)) (Int.emod_lt_of_pos _ hm) ⟨a / m, p, l, by simp [List.getElem?_set_self hn], hp, by omega, hl⟩ Oth.set
  · rw [if_neg ha]
    try dsimp only
    rw [w_cons]
    simp only [sat_ok, e_int, e_str, e_non, e_bl, e_gc, e_var, e_bin, e_neg, e_cmp, e_chain, e_and, e_or, e_not, e_ife, e_tup, e_idx, e_cutS, e_fz, frz_v, frz_l, e_peek, e_bi, e_isi, e_dft, e_new, e_join, e_dct0, e_dct1, bi_tupL, bi_tupT, es_nil, es_cons, t_and, t_or, t_not, t_cmp, t_chain, t_val, t_yes, ta_1, ta_s, to_1, to_s, ea_1, ea_s, eo_1, eo_s, p_none, p_some, intP_int, f_lst, f_cutL, f_rev, f_cat, f_listOf, f_call, f_repE, f_lrange, i_zip, f_sorted, f_sortSet, f_sortK, c_ltT, e_newI, e_peekI, e_isiC, e_lenSet, f_meth, i_seq, i_r1, i_r2, i_r3, slot_0, slot_s, slotO_0, slotO_s, slotA_0, slotA_s, b_add, b_sub, b_mul, b_fdiv, b_mod, b_pow, c_lt, c_le, c_gt, c_ge, c_eq, c_ne, x_lst, x_tup, len_lst, len_tup, bi_abs, bi_max2, bi_min2, bi_min3, bi_max3, is_int, is_lst, tr_bl, tr_int, tr_lst, ne_int, it_lst, it_tup, om_app, dr_lst, sd_lst, sd_tup, lstD_lst, tupD_tup, lO_l, lft_some, lft_map, lft_bind, au_add, au_sub, List.set_cons_zero, List.set_cons_succ, decide_eq_true_eq, Bool.not_eq_true', Bool.false_eq_true, Bool.true_eq_false, if_true, if_false, List.map_cons, List.map_nil, p10_6, p10_9, p10_11, p10_12, p10_18, w_nil, w_asg, w_asgO, w_asgC, w_asgT, w_par, w_aug, w_setC, w_augC, w_setO, w_augO, w_mtO, w_mtC, w_if, w_for, w_ret, w_retF, w_retV, w_retN, w_exp, w_pass, w_brk, w_cont, x_ref hc, at_1, celL_of hc, set_1]
    have hc' : (⟨s.c.set n (.L [.int a, .int (p + 1), .lst (intL l)]), s.w + 1⟩ : Sto).c[n]? = some (.L [.int a, .int (p + 1), .lst (intL l)]) := by simp [List.getElem?_set_self hn]
    generalize hs' : (⟨s.c.set n (.L [.int a, .int (p + 1), .lst (intL l)]), s.w + 1⟩ : Sto) = s' at hc' ⊢
    have ho : Oth n s s' := by rw [← hs']; exact Oth.set
    try dsimp only
    rw [w_cons]
    simp only [sat_ok, e_int, e_str, e_non, e_bl, e_gc, e_var, e_bin, e_neg, e_cmp, e_chain, e_and, e_or, e_not, e_ife, e_tup, e_idx, e_cutS, e_fz, frz_v, frz_l, e_peek, e_bi, e_isi, e_dft, e_new, e_join, e_dct0, e_dct1, bi_tupL, bi_tupT, es_nil, es_cons, t_and, t_or, t_not, t_cmp, t_chain, t_val, t_yes, ta_1, ta_s, to_1, to_s, ea_1, ea_s, eo_1, eo_s, p_none, p_some, intP_int, f_lst, f_cutL, f_rev, f_cat, f_listOf, f_call, f_repE, f_lrange, i_zip, f_sorted, f_sortSet, f_sortK, c_ltT, e_newI, e_peekI, e_isiC, e_lenSet, f_meth, i_seq, i_r1, i_r2, i_r3, slot_0, slot_s, slotO_0, slotO_s, slotA_0, slotA_s, b_add, b_sub, b_mul, b_fdiv, b_mod, b_pow, c_lt, c_le, c_gt, c_ge, c_eq, c_ne, x_lst, x_tup, len_lst, len_tup, bi_abs, bi_max2, bi_min2, bi_min3, bi_max3, is_int, is_lst, tr_bl, tr_int, tr_lst, ne_int, it_lst, it_tup, om_app, dr_lst, sd_lst, sd_tup, lstD_lst, tupD_tup, lO_l, lft_some, lft_map, lft_bind, au_add, au_sub, List.set_cons_zero, List.set_cons_succ, decide_eq_true_eq, Bool.not_eq_true', Bool.false_eq_true, Bool.true_eq_false, if_true, if_false, List.map_cons, List.map_nil, p10_6, p10_9, p10_11, p10_12, p10_18, w_nil, w_asg, w_asgO, w_asgC, w_asgT, w_par, w_aug, w_setC, w_augC, w_setO, w_augO, w_mtO, w_mtC, w_if, w_for, w_ret, w_retF, w_retV, w_retN, w_exp, w_pass, w_brk, w_cont, x_ref hc', at_1, at_2]
    rw [intL_length]
    have hr0 := Int.emod_nonneg (p + 1) (b := (l.length : Int)) (by omega)
    have hr1 := Int.emod_lt_of_pos (p + 1) hll
    refine ⟨hll, lft_at hr0 (by rw [intL_length]; exact hr1) fun x hx => ?_⟩
    obtain ⟨i, rfl, hi⟩ := intL_mem hx
    simp only [b_mod]
    refine ⟨by omega, ?_⟩
    have hi0 := Int.emod_nonneg i (b := 2147483647) (by omega)
    have hi1 := Int.emod_lt_of_pos i (b := 2147483647) (by omega)
    generalize i % 2147483647 = c at hi0 hi1 ⊢
    try dsimp only
    rw [w_cons]
    simp only [sat_ok, e_int, e_str, e_non, e_bl, e_gc, e_var, e_bin, e_neg, e_cmp, e_chain, e_and, e_or, e_not, e_ife, e_tup, e_idx, e_cutS, e_fz, frz_v, frz_l, e_peek, e_bi, e_isi, e_dft, e_new, e_join, e_dct0, e_dct1, bi_tupL, bi_tupT, es_nil, es_cons, t_and, t_or, t_not, t_cmp, t_chain, t_val, t_yes, ta_1, ta_s, to_1, to_s, ea_1, ea_s, eo_1, eo_s, p_none, p_some, intP_int, f_lst, f_cutL, f_rev, f_cat, f_listOf, f_call, f_repE, f_lrange, i_zip, f_sorted, f_sortSet, f_sortK, c_ltT, e_newI, e_peekI, e_isiC, e_lenSet, f_meth, i_seq, i_r1, i_r2, i_r3, slot_0, slot_s, slotO_0, slotO_s, slotA_0, slotA_s, b_add, b_sub, b_mul, b_fdiv, b_mod, b_pow, c_lt, c_le, c_gt, c_ge, c_eq, c_ne, x_lst, x_tup, len_lst, len_tup, bi_abs, bi_max2, bi_min2, bi_min3, bi_max3, is_int, is_lst, tr_bl, tr_int, tr_lst, ne_int, it_lst, it_tup, om_app, dr_lst, sd_lst, sd_tup, lstD_lst, tupD_tup, lO_l, lft_some, lft_map, lft_bind, au_add, au_sub, List.set_cons_zero, List.set_cons_succ, decide_eq_true_eq, Bool.not_eq_true', Bool.false_eq_true, Bool.true_eq_false, if_true, if_false, List.map_cons, List.map_nil, p10_6, p10_9, p10_11, p10_12, p10_18, w_nil, w_asg, w_asgO, w_asgC, w_asgT, w_par, w_aug, w_setC, w_augC, w_setO, w_augO, w_mtO, w_mtC, w_if, w_for, w_ret, w_retF, w_retV, w_retN, w_exp, w_pass, w_brk, w_cont, x_ref hc', at_1]
    refine ⟨mul130 (by omega) (by omega) (by omega) (by omega), mul130 (by omega) (by omega) (by omega) (by omega), by omega, ?_⟩
    generalize hc1 : (c * 48271 + (p + 1) * 7368787 + 11) % 998244353 = c1
    have h10 : 0 ≤ c1 := by omega
    have h11 : c1 < 998244353 := by omega
    try dsimp only
    rw [w_cons]
    simp only [sat_ok, e_int, e_str, e_non, e_bl, e_gc, e_var, e_bin, e_neg, e_cmp, e_chain, e_and, e_or, e_not, e_ife, e_tup, e_idx, e_cutS, e_fz, frz_v, frz_l, e_peek, e_bi, e_isi, e_dft, e_new, e_join, e_dct0, e_dct1, bi_tupL, bi_tupT, es_nil, es_cons, t_and, t_or, t_not, t_cmp, t_chain, t_val, t_yes, ta_1, ta_s, to_1, to_s, ea_1, ea_s, eo_1, eo_s, p_none, p_some, intP_int, f_lst, f_cutL, f_rev, f_cat, f_listOf, f_call, f_repE, f_lrange, i_zip, f_sorted, f_sortSet, f_sortK, c_ltT, e_newI, e_peekI, e_isiC, e_lenSet, f_meth, i_seq, i_r1, i_r2, i_r3, slot_0, slot_s, slotO_0, slotO_s, slotA_0, slotA_s, b_add, b_sub, b_mul, b_fdiv, b_mod, b_pow, c_lt, c_le, c_gt, c_ge, c_eq, c_ne, x_lst, x_tup, len_lst, len_tup, bi_abs, bi_max2, bi_min2, bi_min3, bi_max3, is_int, is_lst, tr_bl, tr_int, tr_lst, ne_int, it_lst, it_tup, om_app, dr_lst, sd_lst, sd_tup, lstD_lst, tupD_tup, lO_l, lft_some, lft_map, lft_bind, au_add, au_sub, List.set_cons_zero, List.set_cons_succ, decide_eq_true_eq, Bool.not_eq_true', Bool.false_eq_true, Bool.true_eq_false, if_true, if_false, List.map_cons, List.map_nil, p10_6, p10_9, p10_11, p10_12, p10_18, w_nil, w_asg, w_asgO, w_asgC, w_asgT, w_par, w_aug, w_setC, w_augC, w_setO, w_augO, w_mtO, w_mtC, w_if, w_for, w_ret, w_retF, w_retV, w_retN, w_exp, w_pass, w_brk, w_cont, x_ref hc', at_1]
    refine ⟨mul130 (by omega) (by omega) (by omega) (by omega), by omega, ?_⟩
    generalize hc2 : (c1 * c1 + (p + 1)) % 998244353 = c2
    have h20 : 0 ≤ c2 := by omega
    have h21 : c2 < 998244353 := by omega
    try dsimp only
    rw [w_cons]
    simp only [sat_ok, e_int, e_str, e_non, e_bl, e_gc, e_var, e_bin, e_neg, e_cmp, e_chain, e_and, e_or, e_not, e_ife, e_tup, e_idx, e_cutS, e_fz, frz_v, frz_l, e_peek, e_bi, e_isi, e_dft, e_new, e_join, e_dct0, e_dct1, bi_tupL, bi_tupT, es_nil, es_cons, t_and, t_or, t_not, t_cmp, t_chain, t_val, t_yes, ta_1, ta_s, to_1, to_s, ea_1, ea_s, eo_1, eo_s, p_none, p_some, intP_int, f_lst, f_cutL, f_rev, f_cat, f_listOf, f_call, f_repE, f_lrange, i_zip, f_sorted, f_sortSet, f_sortK, c_ltT, e_newI, e_peekI, e_isiC, e_lenSet, f_meth, i_seq, i_r1, i_r2, i_r3, slot_0, slot_s, slotO_0, slotO_s, slotA_0, slotA_s, b_add, b_sub, b_mul, b_fdiv, b_mod, b_pow, c_lt, c_le, c_gt, c_ge, c_eq, c_ne, x_lst, x_tup, len_lst, len_tup, bi_abs, bi_max2, bi_min2, bi_min3, bi_max3, is_int, is_lst, tr_bl, tr_int, tr_lst, ne_int, it_lst, it_tup, om_app, dr_lst, sd_lst, sd_tup, lstD_lst, tupD_tup, lO_l, lft_some, lft_map, lft_bind, au_add, au_sub, List.set_cons_zero, List.set_cons_succ, decide_eq_true_eq, Bool.not_eq_true', Bool.false_eq_true, Bool.true_eq_false, if_true, if_false, List.map_cons, List.map_nil, p10_6, p10_9, p10_11, p10_12, p10_18, w_nil, w_asg, w_asgO, w_asgC, w_asgT, w_par, w_aug, w_setC, w_augC, w_setO, w_augO, w_mtO, w_mtC, w_if, w_for, w_ret, w_retF, w_retV, w_retN, w_exp, w_pass, w_brk, w_cont]
    refine ⟨mul130 (by omega) (by omega) (by omega) (by omega), by omega, ?_⟩
    generalize hc3 : (c2 * 40503203 + 12345) % 2147483647 = c3
    have h30 : 0 ≤ c3 := by omega
    have h31 : c3 < 2147483647 := by omega
    try dsimp only
    rw [w_cons]
    simp only [sat_ok, e_int, e_str, e_non, e_bl, e_gc, e_var, e_bin, e_neg, e_cmp, e_chain, e_and, e_or, e_not, e_ife, e_tup, e_idx, e_cutS, e_fz, frz_v, frz_l, e_peek, e_bi, e_isi, e_dft, e_new, e_join, e_dct0, e_dct1, bi_tupL, bi_tupT, es_nil, es_cons, t_and, t_or, t_not, t_cmp, t_chain, t_val, t_yes, ta_1, ta_s, to_1, to_s, ea_1, ea_s, eo_1, eo_s, p_none, p_some, intP_int, f_lst, f_cutL, f_rev, f_cat, f_listOf, f_call, f_repE, f_lrange, i_zip, f_sorted, f_sortSet, f_sortK, c_ltT, e_newI, e_peekI, e_isiC, e_lenSet, f_meth, i_seq, i_r1, i_r2, i_r3, slot_0, slot_s, slotO_0, slotO_s, slotA_0, slotA_s, b_add, b_sub, b_mul, b_fdiv, b_mod, b_pow, c_lt, c_le, c_gt, c_ge, c_eq, c_ne, x_lst, x_tup, len_lst, len_tup, bi_abs, bi_max2, bi_min2, bi_min3, bi_max3, is_int, is_lst, tr_bl, tr_int, tr_lst, ne_int, it_lst, it_tup, om_app, dr_lst, sd_lst, sd_tup, lstD_lst, tupD_tup, lO_l, lft_some, lft_map, lft_bind, au_add, au_sub, List.set_cons_zero, List.set_cons_succ, decide_eq_true_eq, Bool.not_eq_true', Bool.false_eq_true, Bool.true_eq_false, if_true, if_false, List.map_cons, List.map_nil, p10_6, p10_9, p10_11, p10_12, p10_18, w_nil, w_asg, w_asgO, w_asgC, w_asgT, w_par, w_aug, w_setC, w_augC, w_setO, w_augO, w_mtO, w_mtC, w_if, w_for, w_ret, w_retF, w_retV, w_retN, w_exp, w_pass, w_brk, w_cont]
    refine ⟨mul130 (by omega) (by omega) (by omega) (by omega), by omega, ⟨by omega, log_ok (small400 (by omega) (by omega))⟩, hm, ?_⟩
    exact q _ _ (Int.emod_nonneg _ (by omega)) (Int.emod_lt_of_pos _ hm) ⟨a, p + 1, l, hc', by omega, by omega, hl⟩ ho

def b_open2 : MSs := (.cons 
  (.asg 3 (.bin .mod (.var 1) (.bi .len (.cons (.var 2) .nil)))) (.cons 
  (.asg 4 (.int 0)) (.cons 
  (.ifS (.andQ (.cons (.cmpQ .ge (.idx (.var 2) (.var 3)) (.bin .pow (.int 10) (.int 18))) (.cons (.cmpQ .lt (.var 1) (.bi .len (.cons (.var 2) .nil))) .nil))) (.cons 
  (.asg 4 (.idx (.var 2) (.var 3))) .nil) .nil) (.cons 
  (.ret (.newL (.cons (.var 4) (.cons (.bin .add (.int 1) (.bin .mul (.int 101) (.var 1))) (.cons (.fz (.cat (.fz (.cutL (.var 2) (.some (.var 3)) .none)) (.fz (.cutL (.var 2) .none (.some (.var 3)))))) .nil))))) .nil))))
def b_open : MSs := (.cons 
  (.asgO 2 (.comp [5] (.one 5) (.seq (.fz (.cutL (.var 0) .none (.some (.int 63))))) .yes (.bi .abs (.cons (.var 5) .nil)))) (.cons 
  (.frz 2) (.cons 
  (.ifS (.cmpQ .eq (.var 2) (.fz (.lst .nil))) (.cons 
  (.asg 2 (.fz (.lst (.cons (.int 0) .nil)))) .nil) .nil) b_open2)))
theorem intL_plain : ∀ l : List Int, D.plainL (intL l) = true
  | [] => rfl
  | x :: l => by show (D.plain (.int x) && D.plainL (intL l)) = true; rw [intL_plain l]; rfl
theorem intL_dep : ∀ l : List Int, D.depL (intL l) = 0
  | [] => rfl
  | x :: l => by show max (D.dep (.int x)) (D.depL (intL l)) = 0; rw [intL_dep l]; rfl
theorem cutG_all {α : Type} (xs : List α) : cutG xs none none = xs := by
  unfold cutG HT.sIx
  simp
theorem cutG_take {α : Type} (xs : List α) {i : Int} (h : 0 ≤ i) : cutG xs none (some i) = xs.take i.toNat := by
  unfold cutG HT.sIx
  dsimp only
  rw [if_neg (by omega)]
  simp only [List.drop_zero, Nat.sub_zero]
  by_cases h : i.toNat ≤ xs.length
  · rw [Nat.min_eq_left h]
  · rw [Nat.min_eq_right (by omega), List.take_of_length_le (Nat.le_refl _), List.take_of_length_le (by omega)]
theorem cutG_drop {α : Type} (xs : List α) {i : Int} (h : 0 ≤ i) (h1 : i ≤ xs.length) : cutG xs (some i) none = xs.drop i.toNat := by
  unfold cutG HT.sIx
  dsimp only
  rw [if_neg (by omega), Nat.min_eq_left (by omega)]
  rw [List.take_of_length_le (by simp)]
theorem intL_take (l : List Int) (n : Nat) : (intL l).take n = intL (l.take n) := by simp [intL, List.map_take]
theorem intL_drop (l : List Int) (n : Nat) : (intL l).drop n = intL (l.drop n) := by simp [intL, List.map_drop]
theorem intL_append (l m : List Int) : intL l ++ intL m = intL (l ++ m) := by simp [intL]
theorem intL_at {l : List Int} {i : Int} {Q : D → Prop} (h0 : 0 ≤ i) (h1 : i < l.length) (q : ∀ x ∈ l, Q (.int x)) : lft (atI (intL l) i) Q :=
  lft_at h0 (by rw [intL_length]; exact h1) fun x hx => by
    obtain ⟨j, rfl, hj⟩ := intL_mem hx
    exact q j hj
theorem c_eqN {l : List Int} {s : Sto} {Q : Bool → Prop} : lft (cmpD .eq s (.lst (intL l)) (.lst [])) Q = Q (decide (l = [])) := by
  have h : eqD s (.lst (intL l)) (.lst []) = some (D.eqv (.lst (intL l)) (.lst [])) := by
    unfold eqD
    exact if_pos ⟨intL_plain l, rfl, Nat.le_trans (Nat.min_le_right _ _) (show (1 : Nat) ≤ 60 by decide)⟩
  show lft (eqD s (.lst (intL l)) (.lst [])) Q = _
  rw [h]
  cases l <;> rfl
theorem len63 {n : Nat} (h : n ≤ 1000) : n ≤ line := Nat.le_trans h (by decide)
/-- what stands behind the opening -/
def Opened (s s' : Sto) : Prop := s'.c.length = s.c.length + 1 ∧ (∀ m, m < s.c.length → s'.c[m]? = s.c[m]?) ∧ Hand s' s.c.length 1000000
theorem open2 {cf : Nat → List D → Sto → Re O} {N : Nat} {s : Sto} {E : En} {x0 x5 : Option O} {place : Int} {l : List Int} (hl : l ≠ []) (hlen : l.length ≤ 63) (hp0 : 0 ≤ place) (hp1 : place ≤ 1000000)
    (q : ∀ s', Opened s s' → E.rt (.v (.ref s.c.length)) s') : wp (execs cf N b_open2 s [x0, some (.v (.int place)), some (.v (.lst (intL l))), none, none, x5]) E := by
  have hll : 0 < (l.length : Int) := by
    have := List.length_pos_iff.mpr hl; omega
  have hr0 := Int.emod_nonneg place (b := (l.length : Int)) (by omega)
  have hr1 := Int.emod_lt_of_pos place hll
  simp only [b_open2]
  rw [w_cons]
  simp only [sat_ok, e_int, e_str, e_non, e_bl, e_gc, e_var, e_bin, e_neg, e_cmp, e_chain, e_and, e_or, e_not, e_ife, e_tup, e_idx, e_cutS, e_fz, frz_v, frz_l, e_peek, e_bi, e_isi, e_dft, e_new, e_join, e_dct0, e_dct1, bi_tupL, bi_tupT, es_nil, es_cons, t_and, t_or, t_not, t_cmp, t_chain, t_val, t_yes, ta_1, ta_s, to_1, to_s, ea_1, ea_s, eo_1, eo_s, p_none, p_some, intP_int, f_lst, f_cutL, f_rev, f_cat, f_listOf, f_call, f_repE, f_lrange, i_zip, f_sorted, f_sortSet, f_sortK, c_ltT, e_newI, e_peekI, e_isiC, e_lenSet, f_meth, i_seq, i_r1, i_r2, i_r3, slot_0, slot_s, slotO_0, slotO_s, slotA_0, slotA_s, b_add, b_sub, b_mul, b_fdiv, b_mod, b_pow, c_lt, c_le, c_gt, c_ge, c_eq, c_ne, x_lst, x_tup, len_lst, len_tup, bi_abs, bi_max2, bi_min2, bi_min3, bi_max3, is_int, is_lst, tr_bl, tr_int, tr_lst, ne_int, it_lst, it_tup, om_app, dr_lst, sd_lst, sd_tup, lstD_lst, tupD_tup, lO_l, lft_some, lft_map, lft_bind, au_add, au_sub, List.set_cons_zero, List.set_cons_succ, decide_eq_true_eq, Bool.not_eq_true', Bool.false_eq_true, Bool.true_eq_false, if_true, if_false, List.map_cons, List.map_nil, p10_6, p10_9, p10_11, p10_12, p10_18, w_nil, w_asg, w_asgO, w_asgC, w_asgT, w_par, w_aug, w_setC, w_augC, w_setO, w_augO, w_mtO, w_mtC, w_if, w_for, w_ret, w_retF, w_retV, w_retN, w_exp, w_pass, w_brk, w_cont, intL_length]
  refine ⟨hll, ?_⟩
  generalize place % (l.length : Int) = r at hr0 hr1 ⊢
  rw [w_cons]
  simp only [sat_ok, e_int, e_str, e_non, e_bl, e_gc, e_var, e_bin, e_neg, e_cmp, e_chain, e_and, e_or, e_not, e_ife, e_tup, e_idx, e_cutS, e_fz, frz_v, frz_l, e_peek, e_bi, e_isi, e_dft, e_new, e_join, e_dct0, e_dct1, bi_tupL, bi_tupT, es_nil, es_cons, t_and, t_or, t_not, t_cmp, t_chain, t_val, t_yes, ta_1, ta_s, to_1, to_s, ea_1, ea_s, eo_1, eo_s, p_none, p_some, intP_int, f_lst, f_cutL, f_rev, f_cat, f_listOf, f_call, f_repE, f_lrange, i_zip, f_sorted, f_sortSet, f_sortK, c_ltT, e_newI, e_peekI, e_isiC, e_lenSet, f_meth, i_seq, i_r1, i_r2, i_r3, slot_0, slot_s, slotO_0, slotO_s, slotA_0, slotA_s, b_add, b_sub, b_mul, b_fdiv, b_mod, b_pow, c_lt, c_le, c_gt, c_ge, c_eq, c_ne, x_lst, x_tup, len_lst, len_tup, bi_abs, bi_max2, bi_min2, bi_min3, bi_max3, is_int, is_lst, tr_bl, tr_int, tr_lst, ne_int, it_lst, it_tup, om_app, dr_lst, sd_lst, sd_tup, lstD_lst, tupD_tup, lO_l, lft_some, lft_map, lft_bind, au_add, au_sub, List.set_cons_zero, List.set_cons_succ, decide_eq_true_eq, Bool.not_eq_true', Bool.false_eq_true, Bool.true_eq_false, if_true, if_false, List.map_cons, List.map_nil, p10_6, p10_9, p10_11, p10_12, p10_18, w_nil, w_asg, w_asgO, w_asgC, w_asgT, w_par, w_aug, w_setC, w_augC, w_setO, w_augO, w_mtO, w_mtC, w_if, w_for, w_ret, w_retF, w_retV, w_retN, w_exp, w_pass, w_brk, w_cont]
  have fin : ∀ d : Int, wp (execs cf N (.cons (.ret (.newL (.cons (.var 4) (.cons (.bin .add (.int 1) (.bin .mul (.int 101) (.var 1))) (.cons (.fz (.cat (.fz (.cutL (.var 2) (.some (.var 3)) .none)) (.fz (.cutL (.var 2) .none (.some (.var 3)))))) .nil))))) .nil) s [x0, some (.v (.int place)), some (.v (.lst (intL l))), some (.v (.int r)), some (.v (.int d)), x5]) E := fun d => by
    try dsimp only
    rw [w_cons]
    simp only [sat_ok, e_int, e_str, e_non, e_bl, e_gc, e_var, e_bin, e_neg, e_cmp, e_chain, e_and, e_or, e_not, e_ife, e_tup, e_idx, e_cutS, e_fz, frz_v, frz_l, e_peek, e_bi, e_isi, e_dft, e_new, e_join, e_dct0, e_dct1, bi_tupL, bi_tupT, es_nil, es_cons, t_and, t_or, t_not, t_cmp, t_chain, t_val, t_yes, ta_1, ta_s, to_1, to_s, ea_1, ea_s, eo_1, eo_s, p_none, p_some, intP_int, f_lst, f_cutL, f_rev, f_cat, f_listOf, f_call, f_repE, f_lrange, i_zip, f_sorted, f_sortSet, f_sortK, c_ltT, e_newI, e_peekI, e_isiC, e_lenSet, f_meth, i_seq, i_r1, i_r2, i_r3, slot_0, slot_s, slotO_0, slotO_s, slotA_0, slotA_s, b_add, b_sub, b_mul, b_fdiv, b_mod, b_pow, c_lt, c_le, c_gt, c_ge, c_eq, c_ne, x_lst, x_tup, len_lst, len_tup, bi_abs, bi_max2, bi_min2, bi_min3, bi_max3, is_int, is_lst, tr_bl, tr_int, tr_lst, ne_int, it_lst, it_tup, om_app, dr_lst, sd_lst, sd_tup, lstD_lst, tupD_tup, lO_l, lft_some, lft_map, lft_bind, au_add, au_sub, List.set_cons_zero, List.set_cons_succ, decide_eq_true_eq, Bool.not_eq_true', Bool.false_eq_true, Bool.true_eq_false, if_true, if_false, List.map_cons, List.map_nil, p10_6, p10_9, p10_11, p10_12, p10_18, w_nil, w_asg, w_asgO, w_asgC, w_asgT, w_par, w_aug, w_setC, w_augC, w_setO, w_augO, w_mtO, w_mtC, w_if, w_for, w_ret, w_retF, w_retV, w_retN, w_exp, w_pass, w_brk, w_cont]
    rw [cutG_take _ hr0, cutG_drop _ hr0 (by rw [intL_length]; omega), intL_take, intL_drop, intL_append, intL_length, intL_length]
    refine ⟨mul130 (by omega) (by omega) (by omega) (by omega), len63 (by rw [List.length_take, List.length_drop]; omega), len63 (by simp), q _ ⟨by simp, fun m hm => by simp [List.getElem?_append_left hm], d, 1 + 101 * place, List.drop r.toNat l ++ List.take r.toNat l, by simp, by omega, by omega, ?_⟩⟩
    intro h
    have := congrArg List.length h
    rw [List.length_append, List.length_take, List.length_drop] at this
    simp at this
    omega
  rw [w_cons]
  simp only [sat_ok, e_int, e_str, e_non, e_bl, e_gc, e_var, e_bin, e_neg, e_cmp, e_chain, e_and, e_or, e_not, e_ife, e_tup, e_idx, e_cutS, e_fz, frz_v, frz_l, e_peek, e_bi, e_isi, e_dft, e_new, e_join, e_dct0, e_dct1, bi_tupL, bi_tupT, es_nil, es_cons, t_and, t_or, t_not, t_cmp, t_chain, t_val, t_yes, ta_1, ta_s, to_1, to_s, ea_1, ea_s, eo_1, eo_s, p_none, p_some, intP_int, f_lst, f_cutL, f_rev, f_cat, f_listOf, f_call, f_repE, f_lrange, i_zip, f_sorted, f_sortSet, f_sortK, c_ltT, e_newI, e_peekI, e_isiC, e_lenSet, f_meth, i_seq, i_r1, i_r2, i_r3, slot_0, slot_s, slotO_0, slotO_s, slotA_0, slotA_s, b_add, b_sub, b_mul, b_fdiv, b_mod, b_pow, c_lt, c_le, c_gt, c_ge, c_eq, c_ne, x_lst, x_tup, len_lst, len_tup, bi_abs, bi_max2, bi_min2, bi_min3, bi_max3, is_int, is_lst, tr_bl, tr_int, tr_lst, ne_int, it_lst, it_tup, om_app, dr_lst, sd_lst, sd_tup, lstD_lst, tupD_tup, lO_l, lft_some, lft_map, lft_bind, au_add, au_sub, List.set_cons_zero, List.set_cons_succ, decide_eq_true_eq, Bool.not_eq_true', Bool.false_eq_true, Bool.true_eq_false, if_true, if_false, List.map_cons, List.map_nil, p10_6, p10_9, p10_11, p10_12, p10_18, w_nil, w_asg, w_asgO, w_asgC, w_asgT, w_par, w_aug, w_setC, w_augC, w_setO, w_augO, w_mtO, w_mtC, w_if, w_for, w_ret, w_retF, w_retV, w_retN, w_exp, w_pass, w_brk, w_cont, intL_length]
  refine intL_at hr0 hr1 fun x hx => ?_
  simp only [sat_ok, e_int, e_str, e_non, e_bl, e_gc, e_var, e_bin, e_neg, e_cmp, e_chain, e_and, e_or, e_not, e_ife, e_tup, e_idx, e_cutS, e_fz, frz_v, frz_l, e_peek, e_bi, e_isi, e_dft, e_new, e_join, e_dct0, e_dct1, bi_tupL, bi_tupT, es_nil, es_cons, t_and, t_or, t_not, t_cmp, t_chain, t_val, t_yes, ta_1, ta_s, to_1, to_s, ea_1, ea_s, eo_1, eo_s, p_none, p_some, intP_int, f_lst, f_cutL, f_rev, f_cat, f_listOf, f_call, f_repE, f_lrange, i_zip, f_sorted, f_sortSet, f_sortK, c_ltT, e_newI, e_peekI, e_isiC, e_lenSet, f_meth, i_seq, i_r1, i_r2, i_r3, slot_0, slot_s, slotO_0, slotO_s, slotA_0, slotA_s, b_add, b_sub, b_mul, b_fdiv, b_mod, b_pow, c_lt, c_le, c_gt, c_ge, c_eq, c_ne, x_lst, x_tup, len_lst, len_tup, bi_abs, bi_max2, bi_min2, bi_min3, bi_max3, is_int, is_lst, tr_bl, tr_int, tr_lst, ne_int, it_lst, it_tup, om_app, dr_lst, sd_lst, sd_tup, lstD_lst, tupD_tup, lO_l, lft_some, lft_map, lft_bind, au_add, au_sub, List.set_cons_zero, List.set_cons_succ, decide_eq_true_eq, Bool.not_eq_true', Bool.false_eq_true, Bool.true_eq_false, if_true, if_false, List.map_cons, List.map_nil, p10_6, p10_9, p10_11, p10_12, p10_18, w_nil, w_asg, w_asgO, w_asgC, w_asgT, w_par, w_aug, w_setC, w_augC, w_setO, w_augO, w_mtO, w_mtC, w_if, w_for, w_ret, w_retF, w_retV, w_retN, w_exp, w_pass, w_brk, w_cont, intL_length]
  refine ⟨by decide, ?_⟩
  split
  · split
    · rw [w_cons]
      simp only [sat_ok, e_int, e_str, e_non, e_bl, e_gc, e_var, e_bin, e_neg, e_cmp, e_chain, e_and, e_or, e_not, e_ife, e_tup, e_idx, e_cutS, e_fz, frz_v, frz_l, e_peek, e_bi, e_isi, e_dft, e_new, e_join, e_dct0, e_dct1, bi_tupL, bi_tupT, es_nil, es_cons, t_and, t_or, t_not, t_cmp, t_chain, t_val, t_yes, ta_1, ta_s, to_1, to_s, ea_1, ea_s, eo_1, eo_s, p_none, p_some, intP_int, f_lst, f_cutL, f_rev, f_cat, f_listOf, f_call, f_repE, f_lrange, i_zip, f_sorted, f_sortSet, f_sortK, c_ltT, e_newI, e_peekI, e_isiC, e_lenSet, f_meth, i_seq, i_r1, i_r2, i_r3, slot_0, slot_s, slotO_0, slotO_s, slotA_0, slotA_s, b_add, b_sub, b_mul, b_fdiv, b_mod, b_pow, c_lt, c_le, c_gt, c_ge, c_eq, c_ne, x_lst, x_tup, len_lst, len_tup, bi_abs, bi_max2, bi_min2, bi_min3, bi_max3, is_int, is_lst, tr_bl, tr_int, tr_lst, ne_int, it_lst, it_tup, om_app, dr_lst, sd_lst, sd_tup, lstD_lst, tupD_tup, lO_l, lft_some, lft_map, lft_bind, au_add, au_sub, List.set_cons_zero, List.set_cons_succ, decide_eq_true_eq, Bool.not_eq_true', Bool.false_eq_true, Bool.true_eq_false, if_true, if_false, List.map_cons, List.map_nil, p10_6, p10_9, p10_11, p10_12, p10_18, w_nil, w_asg, w_asgO, w_asgC, w_asgT, w_par, w_aug, w_setC, w_augC, w_setO, w_augO, w_mtO, w_mtC, w_if, w_for, w_ret, w_retF, w_retV, w_retN, w_exp, w_pass, w_brk, w_cont]
      exact intL_at hr0 hr1 fun y _ => fin y
    · exact fin 0
  · exact fin 0
theorem sat_open {P : Pg} {f k : Nat} {place : Int} {ns : List Int} {s : Sto} {Q : O → Sto → Prop} (hf : P.funs[f]? = some ⟨2, 6, b_open⟩) (hns : ns.length ≤ 63) (hp0 : 0 ≤ place) (hp1 : place ≤ 1000000)
    (q : ∀ s', Opened s s' → Q (.v (.ref s.c.length)) s') : sat (call P (k + 1) f [.lst (intL ns), .int place] s) Q := by
  refine sat_call (δ := [_, _, none, none, none, none]) hf rfl rfl ?_
  simp only [b_open]
  rw [w_cons]
  simp only [sat_ok, e_int, e_str, e_non, e_bl, e_gc, e_var, e_bin, e_neg, e_cmp, e_chain, e_and, e_or, e_not, e_ife, e_tup, e_idx, e_cutS, e_fz, frz_v, frz_l, e_peek, e_bi, e_isi, e_dft, e_new, e_join, e_dct0, e_dct1, bi_tupL, bi_tupT, es_nil, es_cons, t_and, t_or, t_not, t_cmp, t_chain, t_val, t_yes, ta_1, ta_s, to_1, to_s, ea_1, ea_s, eo_1, eo_s, p_none, p_some, intP_int, f_lst, f_cutL, f_rev, f_cat, f_listOf, f_call, f_repE, f_lrange, i_zip, f_sorted, f_sortSet, f_sortK, c_ltT, e_newI, e_peekI, e_isiC, e_lenSet, f_meth, i_seq, i_r1, i_r2, i_r3, slot_0, slot_s, slotO_0, slotO_s, slotA_0, slotA_s, b_add, b_sub, b_mul, b_fdiv, b_mod, b_pow, c_lt, c_le, c_gt, c_ge, c_eq, c_ne, x_lst, x_tup, len_lst, len_tup, bi_abs, bi_max2, bi_min2, bi_min3, bi_max3, is_int, is_lst, tr_bl, tr_int, tr_lst, ne_int, it_lst, it_tup, om_app, dr_lst, sd_lst, sd_tup, lstD_lst, tupD_tup, lO_l, lft_some, lft_map, lft_bind, au_add, au_sub, List.set_cons_zero, List.set_cons_succ, decide_eq_true_eq, Bool.not_eq_true', Bool.false_eq_true, Bool.true_eq_false, if_true, if_false, List.map_cons, List.map_nil, p10_6, p10_9, p10_11, p10_12, p10_18, w_nil, w_asg, w_asgO, w_asgC, w_asgT, w_par, w_aug, w_setC, w_augC, w_setO, w_augO, w_mtO, w_mtC, w_if, w_for, w_ret, w_retF, w_retV, w_retN, w_exp, w_pass, w_brk, w_cont, f_comp]
  rw [cutG_take _ (by omega), intL_take, intL_length]
  refine ⟨len63 (by rw [List.length_take]; omega), ?_⟩
  refine sat_comp (by exact trivial) (fun d => match d with | .int i => some (.int (if i < 0 then -i else i)) | _ => none) (fun x hx => ?_) ?_
  · obtain ⟨i, rfl, hi⟩ := intL_mem hx
    simp only [turnP, bindT, wipeL, sat_ok, e_int, e_str, e_non, e_bl, e_gc, e_var, e_bin, e_neg, e_cmp, e_chain, e_and, e_or, e_not, e_ife, e_tup, e_idx, e_cutS, e_fz, frz_v, frz_l, e_peek, e_bi, e_isi, e_dft, e_new, e_join, e_dct0, e_dct1, bi_tupL, bi_tupT, es_nil, es_cons, t_and, t_or, t_not, t_cmp, t_chain, t_val, t_yes, ta_1, ta_s, to_1, to_s, ea_1, ea_s, eo_1, eo_s, p_none, p_some, intP_int, f_lst, f_cutL, f_rev, f_cat, f_listOf, f_call, f_repE, f_lrange, i_zip, f_sorted, f_sortSet, f_sortK, c_ltT, e_newI, e_peekI, e_isiC, e_lenSet, f_meth, i_seq, i_r1, i_r2, i_r3, slot_0, slot_s, slotO_0, slotO_s, slotA_0, slotA_s, b_add, b_sub, b_mul, b_fdiv, b_mod, b_pow, c_lt, c_le, c_gt, c_ge, c_eq, c_ne, x_lst, x_tup, len_lst, len_tup, bi_abs, bi_max2, bi_min2, bi_min3, bi_max3, is_int, is_lst, tr_bl, tr_int, tr_lst, ne_int, it_lst, it_tup, om_app, dr_lst, sd_lst, sd_tup, lstD_lst, tupD_tup, lO_l, lft_some, lft_map, lft_bind, au_add, au_sub, List.set_cons_zero, List.set_cons_succ, decide_eq_true_eq, Bool.not_eq_true', Bool.false_eq_true, Bool.true_eq_false, if_true, if_false, List.map_cons, List.map_nil, p10_6, p10_9, p10_11, p10_12, p10_18, sat_bind, sat_ite]
    first | exact ⟨rfl, rfl⟩ | exact ⟨trivial, trivial⟩ | trivial
  · have e : ∀ l : List Int, (intL l).filterMap (fun d => match d with | D.int i => some (D.int (if i < 0 then -i else i)) | _ => none) = intL (l.map fun i => if i < 0 then -i else i) := fun l => by
      induction l with
      | nil => rfl
      | cons a l ih =>
        show D.int (if a < 0 then -a else a) :: (intL l).filterMap _ = _
        rw [ih]; rfl
    rw [e]
    have hl : ((List.take (Int.toNat 63) ns).map fun i => if i < 0 then -i else i).length ≤ 63 := by
      rw [List.length_map, List.length_take]; omega
    generalize (List.take (Int.toNat 63) ns).map (fun i => if i < 0 then -i else i) = l at hl ⊢
    rw [w_cons, w_frz (o := some (.l (intL l))) rfl]
    simp only [frzL, sat_ok, e_int, e_str, e_non, e_bl, e_gc, e_var, e_bin, e_neg, e_cmp, e_chain, e_and, e_or, e_not, e_ife, e_tup, e_idx, e_cutS, e_fz, frz_v, frz_l, e_peek, e_bi, e_isi, e_dft, e_new, e_join, e_dct0, e_dct1, bi_tupL, bi_tupT, es_nil, es_cons, t_and, t_or, t_not, t_cmp, t_chain, t_val, t_yes, ta_1, ta_s, to_1, to_s, ea_1, ea_s, eo_1, eo_s, p_none, p_some, intP_int, f_lst, f_cutL, f_rev, f_cat, f_listOf, f_call, f_repE, f_lrange, i_zip, f_sorted, f_sortSet, f_sortK, c_ltT, e_newI, e_peekI, e_isiC, e_lenSet, f_meth, i_seq, i_r1, i_r2, i_r3, slot_0, slot_s, slotO_0, slotO_s, slotA_0, slotA_s, b_add, b_sub, b_mul, b_fdiv, b_mod, b_pow, c_lt, c_le, c_gt, c_ge, c_eq, c_ne, x_lst, x_tup, len_lst, len_tup, bi_abs, bi_max2, bi_min2, bi_min3, bi_max3, is_int, is_lst, tr_bl, tr_int, tr_lst, ne_int, it_lst, it_tup, om_app, dr_lst, sd_lst, sd_tup, lstD_lst, tupD_tup, lO_l, lft_some, lft_map, lft_bind, au_add, au_sub, List.set_cons_zero, List.set_cons_succ, decide_eq_true_eq, Bool.not_eq_true', Bool.false_eq_true, Bool.true_eq_false, if_true, if_false, List.map_cons, List.map_nil, p10_6, p10_9, p10_11, p10_12, p10_18]
    try dsimp only
    rw [w_cons]
    simp only [sat_ok, e_int, e_str, e_non, e_bl, e_gc, e_var, e_bin, e_neg, e_cmp, e_chain, e_and, e_or, e_not, e_ife, e_tup, e_idx, e_cutS, e_fz, frz_v, frz_l, e_peek, e_bi, e_isi, e_dft, e_new, e_join, e_dct0, e_dct1, bi_tupL, bi_tupT, es_nil, es_cons, t_and, t_or, t_not, t_cmp, t_chain, t_val, t_yes, ta_1, ta_s, to_1, to_s, ea_1, ea_s, eo_1, eo_s, p_none, p_some, intP_int, f_lst, f_cutL, f_rev, f_cat, f_listOf, f_call, f_repE, f_lrange, i_zip, f_sorted, f_sortSet, f_sortK, c_ltT, e_newI, e_peekI, e_isiC, e_lenSet, f_meth, i_seq, i_r1, i_r2, i_r3, slot_0, slot_s, slotO_0, slotO_s, slotA_0, slotA_s, b_add, b_sub, b_mul, b_fdiv, b_mod, b_pow, c_lt, c_le, c_gt, c_ge, c_eq, c_ne, x_lst, x_tup, len_lst, len_tup, bi_abs, bi_max2, bi_min2, bi_min3, bi_max3, is_int, is_lst, tr_bl, tr_int, tr_lst, ne_int, it_lst, it_tup, om_app, dr_lst, sd_lst, sd_tup, lstD_lst, tupD_tup, lO_l, lft_some, lft_map, lft_bind, au_add, au_sub, List.set_cons_zero, List.set_cons_succ, decide_eq_true_eq, Bool.not_eq_true', Bool.false_eq_true, Bool.true_eq_false, if_true, if_false, List.map_cons, List.map_nil, p10_6, p10_9, p10_11, p10_12, p10_18, w_nil, w_asg, w_asgO, w_asgC, w_asgT, w_par, w_aug, w_setC, w_augC, w_setO, w_augO, w_mtO, w_mtC, w_if, w_for, w_ret, w_retF, w_retV, w_retN, w_exp, w_pass, w_brk, w_cont, c_eqN]
    refine ⟨by decide, ?_⟩
    split
    · rw [w_cons]
      simp only [sat_ok, e_int, e_str, e_non, e_bl, e_gc, e_var, e_bin, e_neg, e_cmp, e_chain, e_and, e_or, e_not, e_ife, e_tup, e_idx, e_cutS, e_fz, frz_v, frz_l, e_peek, e_bi, e_isi, e_dft, e_new, e_join, e_dct0, e_dct1, bi_tupL, bi_tupT, es_nil, es_cons, t_and, t_or, t_not, t_cmp, t_chain, t_val, t_yes, ta_1, ta_s, to_1, to_s, ea_1, ea_s, eo_1, eo_s, p_none, p_some, intP_int, f_lst, f_cutL, f_rev, f_cat, f_listOf, f_call, f_repE, f_lrange, i_zip, f_sorted, f_sortSet, f_sortK, c_ltT, e_newI, e_peekI, e_isiC, e_lenSet, f_meth, i_seq, i_r1, i_r2, i_r3, slot_0, slot_s, slotO_0, slotO_s, slotA_0, slotA_s, b_add, b_sub, b_mul, b_fdiv, b_mod, b_pow, c_lt, c_le, c_gt, c_ge, c_eq, c_ne, x_lst, x_tup, len_lst, len_tup, bi_abs, bi_max2, bi_min2, bi_min3, bi_max3, is_int, is_lst, tr_bl, tr_int, tr_lst, ne_int, it_lst, it_tup, om_app, dr_lst, sd_lst, sd_tup, lstD_lst, tupD_tup, lO_l, lft_some, lft_map, lft_bind, au_add, au_sub, List.set_cons_zero, List.set_cons_succ, decide_eq_true_eq, Bool.not_eq_true', Bool.false_eq_true, Bool.true_eq_false, if_true, if_false, List.map_cons, List.map_nil, p10_6, p10_9, p10_11, p10_12, p10_18, w_nil, w_asg, w_asgO, w_asgC, w_asgT, w_par, w_aug, w_setC, w_augC, w_setO, w_augO, w_mtO, w_mtC, w_if, w_for, w_ret, w_retF, w_retV, w_retN, w_exp, w_pass, w_brk, w_cont]
      refine ⟨by decide, ?_⟩
      exact open2 (l := [0]) (by simp) (by decide) hp0 hp1 q
    · rename_i hne
      exact open2 hne hl hp0 hp1 q
def b_far (fd : Nat) : MSs := (.cons 
  (.asg 2 (.int 0)) (.cons 
  (.forS (.one 3) (.r1 (.int 11)) (.cons 
  (.asg 2 (.bin .add (.bin .mul (.var 2) (.int 1000003)) (.fz (.call fd (.cons (.var 0) (.cons (.int 1000003) .nil)))))) .nil)) (.cons 
  (.ret (.bin .mod (.var 2) (.var 1))) .nil)))
theorem Hand.oth {s s' : Sto} {n m b : Nat} (h : Hand s n b) (o : Oth m s s') (hne : n ≠ m) : Hand s' n b := by
  obtain ⟨a, p, l, h1, h2⟩ := h
  exact ⟨a, p, l, (o.2 n hne).trans h1, h2⟩
theorem sat_far {P : Pg} {f fd k n b : Nat} {m : Int} {s : Sto} {Q : O → Sto → Prop} (hf : P.funs[f]? = some ⟨2, 4, b_far fd⟩) (hd : P.funs[fd]? = some ⟨2, 5, b_draw⟩) (h : Hand s n (b + 11)) (hm : 0 < m)
    (q : ∀ r s', 0 ≤ r → r < m → Hand s' n b → Oth n s s' → Q (.v (.int r)) s') : sat (call P (k + 2) f [.ref n, .int m] s) Q := by
  refine sat_call (δ := [_, _, none, none]) hf rfl rfl ?_
  simp only [b_far]
  rw [w_cons]
  simp only [sat_ok, e_int, e_str, e_non, e_bl, e_gc, e_var, e_bin, e_neg, e_cmp, e_chain, e_and, e_or, e_not, e_ife, e_tup, e_idx, e_cutS, e_fz, frz_v, frz_l, e_peek, e_bi, e_isi, e_dft, e_new, e_join, e_dct0, e_dct1, bi_tupL, bi_tupT, es_nil, es_cons, t_and, t_or, t_not, t_cmp, t_chain, t_val, t_yes, ta_1, ta_s, to_1, to_s, ea_1, ea_s, eo_1, eo_s, p_none, p_some, intP_int, f_lst, f_cutL, f_rev, f_cat, f_listOf, f_call, f_repE, f_lrange, i_zip, f_sorted, f_sortSet, f_sortK, c_ltT, e_newI, e_peekI, e_isiC, e_lenSet, f_meth, i_seq, i_r1, i_r2, i_r3, slot_0, slot_s, slotO_0, slotO_s, slotA_0, slotA_s, b_add, b_sub, b_mul, b_fdiv, b_mod, b_pow, c_lt, c_le, c_gt, c_ge, c_eq, c_ne, x_lst, x_tup, len_lst, len_tup, bi_abs, bi_max2, bi_min2, bi_min3, bi_max3, is_int, is_lst, tr_bl, tr_int, tr_lst, ne_int, it_lst, it_tup, om_app, dr_lst, sd_lst, sd_tup, lstD_lst, tupD_tup, lO_l, lft_some, lft_map, lft_bind, au_add, au_sub, List.set_cons_zero, List.set_cons_succ, decide_eq_true_eq, Bool.not_eq_true', Bool.false_eq_true, Bool.true_eq_false, if_true, if_false, List.map_cons, List.map_nil, p10_6, p10_9, p10_11, p10_12, p10_18, w_nil, w_asg, w_asgO, w_asgC, w_asgT, w_par, w_aug, w_setC, w_augC, w_setO, w_augO, w_mtO, w_mtC, w_if, w_for, w_ret, w_retF, w_retV, w_retN, w_exp, w_pass, w_brk, w_cont]
  rw [w_cons]
  simp only [sat_ok, e_int, e_str, e_non, e_bl, e_gc, e_var, e_bin, e_neg, e_cmp, e_chain, e_and, e_or, e_not, e_ife, e_tup, e_idx, e_cutS, e_fz, frz_v, frz_l, e_peek, e_bi, e_isi, e_dft, e_new, e_join, e_dct0, e_dct1, bi_tupL, bi_tupT, es_nil, es_cons, t_and, t_or, t_not, t_cmp, t_chain, t_val, t_yes, ta_1, ta_s, to_1, to_s, ea_1, ea_s, eo_1, eo_s, p_none, p_some, intP_int, f_lst, f_cutL, f_rev, f_cat, f_listOf, f_call, f_repE, f_lrange, i_zip, f_sorted, f_sortSet, f_sortK, c_ltT, e_newI, e_peekI, e_isiC, e_lenSet, f_meth, i_seq, i_r1, i_r2, i_r3, slot_0, slot_s, slotO_0, slotO_s, slotA_0, slotA_s, b_add, b_sub, b_mul, b_fdiv, b_mod, b_pow, c_lt, c_le, c_gt, c_ge, c_eq, c_ne, x_lst, x_tup, len_lst, len_tup, bi_abs, bi_max2, bi_min2, bi_min3, bi_max3, is_int, is_lst, tr_bl, tr_int, tr_lst, ne_int, it_lst, it_tup, om_app, dr_lst, sd_lst, sd_tup, lstD_lst, tupD_tup, lO_l, lft_some, lft_map, lft_bind, au_add, au_sub, List.set_cons_zero, List.set_cons_succ, decide_eq_true_eq, Bool.not_eq_true', Bool.false_eq_true, Bool.true_eq_false, if_true, if_false, List.map_cons, List.map_nil, p10_6, p10_9, p10_11, p10_12, p10_18, w_nil, w_asg, w_asgO, w_asgC, w_asgT, w_par, w_aug, w_setC, w_augC, w_setO, w_augO, w_mtO, w_mtC, w_if, w_for, w_ret, w_retF, w_retV, w_retN, w_exp, w_pass, w_brk, w_cont]
  refine ⟨by decide, ?_⟩
  refine wp_range (fun i s' δ => ∃ (t : Int) (z : Option O), δ = [some (.v (.ref n)), some (.v (.int m)), some (.v (.int t)), z] ∧ 0 ≤ t ∧ t < 1000003 ^ i ∧ Hand s' n (b + 11 - i) ∧ Oth n s s') ⟨0, none, rfl, by omega, by decide, h, Oth.refl _ _⟩ ?_ ?_
  · rintro s' δ ⟨t, z, rfl, h1, h2, h3, h4⟩
    try dsimp only
    rw [w_cons]
    simp only [sat_ok, e_int, e_str, e_non, e_bl, e_gc, e_var, e_bin, e_neg, e_cmp, e_chain, e_and, e_or, e_not, e_ife, e_tup, e_idx, e_cutS, e_fz, frz_v, frz_l, e_peek, e_bi, e_isi, e_dft, e_new, e_join, e_dct0, e_dct1, bi_tupL, bi_tupT, es_nil, es_cons, t_and, t_or, t_not, t_cmp, t_chain, t_val, t_yes, ta_1, ta_s, to_1, to_s, ea_1, ea_s, eo_1, eo_s, p_none, p_some, intP_int, f_lst, f_cutL, f_rev, f_cat, f_listOf, f_call, f_repE, f_lrange, i_zip, f_sorted, f_sortSet, f_sortK, c_ltT, e_newI, e_peekI, e_isiC, e_lenSet, f_meth, i_seq, i_r1, i_r2, i_r3, slot_0, slot_s, slotO_0, slotO_s, slotA_0, slotA_s, b_add, b_sub, b_mul, b_fdiv, b_mod, b_pow, c_lt, c_le, c_gt, c_ge, c_eq, c_ne, x_lst, x_tup, len_lst, len_tup, bi_abs, bi_max2, bi_min2, bi_min3, bi_max3, is_int, is_lst, tr_bl, tr_int, tr_lst, ne_int, it_lst, it_tup, om_app, dr_lst, sd_lst, sd_tup, lstD_lst, tupD_tup, lO_l, lft_some, lft_map, lft_bind, au_add, au_sub, List.set_cons_zero, List.set_cons_succ, decide_eq_true_eq, Bool.not_eq_true', Bool.false_eq_true, Bool.true_eq_false, if_true, if_false, List.map_cons, List.map_nil, p10_6, p10_9, p10_11, p10_12, p10_18, w_nil, w_asg, w_asgO, w_asgC, w_asgT, w_par, w_aug, w_setC, w_augC, w_setO, w_augO, w_mtO, w_mtC, w_if, w_for, w_ret, w_retF, w_retV, w_retN, w_exp, w_pass, w_brk, w_cont]
    exact ⟨hm, q _ _ (Int.emod_nonneg _ (by omega)) (Int.emod_lt_of_pos _ hm) (h3.less (by omega)) h4⟩
  · rintro i s' δ hi ⟨t, z, rfl, h1, h2, h3, h4⟩
    have hi' : i < 11 := hi
    try dsimp only
    rw [w_cons]
    simp only [sat_ok, e_int, e_str, e_non, e_bl, e_gc, e_var, e_bin, e_neg, e_cmp, e_chain, e_and, e_or, e_not, e_ife, e_tup, e_idx, e_cutS, e_fz, frz_v, frz_l, e_peek, e_bi, e_isi, e_dft, e_new, e_join, e_dct0, e_dct1, bi_tupL, bi_tupT, es_nil, es_cons, t_and, t_or, t_not, t_cmp, t_chain, t_val, t_yes, ta_1, ta_s, to_1, to_s, ea_1, ea_s, eo_1, eo_s, p_none, p_some, intP_int, f_lst, f_cutL, f_rev, f_cat, f_listOf, f_call, f_repE, f_lrange, i_zip, f_sorted, f_sortSet, f_sortK, c_ltT, e_newI, e_peekI, e_isiC, e_lenSet, f_meth, i_seq, i_r1, i_r2, i_r3, slot_0, slot_s, slotO_0, slotO_s, slotA_0, slotA_s, b_add, b_sub, b_mul, b_fdiv, b_mod, b_pow, c_lt, c_le, c_gt, c_ge, c_eq, c_ne, x_lst, x_tup, len_lst, len_tup, bi_abs, bi_max2, bi_min2, bi_min3, bi_max3, is_int, is_lst, tr_bl, tr_int, tr_lst, ne_int, it_lst, it_tup, om_app, dr_lst, sd_lst, sd_tup, lstD_lst, tupD_tup, lO_l, lft_some, lft_map, lft_bind, au_add, au_sub, List.set_cons_zero, List.set_cons_succ, decide_eq_true_eq, Bool.not_eq_true', Bool.false_eq_true, Bool.true_eq_false, if_true, if_false, List.map_cons, List.map_nil, p10_6, p10_9, p10_11, p10_12, p10_18, w_nil, w_asg, w_asgO, w_asgC, w_asgT, w_par, w_aug, w_setC, w_augC, w_setO, w_augO, w_mtO, w_mtC, w_if, w_for, w_ret, w_retF, w_retV, w_retN, w_exp, w_pass, w_brk, w_cont]
    have h5 : (1000003 : Int) ^ i ≤ 1000003 ^ 10 := (by decide : ∀ i : Nat, i < 11 → (1000003 : Int) ^ i ≤ 1000003 ^ 10) i hi'
    have h6 : (1000003 : Int) ^ 10 ≤ 2 ^ 201 := by decide
    have h7 : (2 : Nat) ^ 201 < 2 ^ 400 := Nat.pow_lt_pow_right (by decide) (by decide)
    have h8 : ((2 : Nat) ^ 201 : Nat) = ((2 : Int) ^ 201).natAbs := by decide
    refine ⟨mul_ok (by generalize (2 : Nat) ^ 400 = z at h7 ⊢; omega) (small400 (by omega) (by omega)), ?_⟩
    refine sat_draw (b := b + 11 - (i + 1)) hd (h3.less (by omega)) (by omega) (by omega) fun r s2 hr0 hr1 hh ho => ?_
    simp only [sat_ok, e_int, e_str, e_non, e_bl, e_gc, e_var, e_bin, e_neg, e_cmp, e_chain, e_and, e_or, e_not, e_ife, e_tup, e_idx, e_cutS, e_fz, frz_v, frz_l, e_peek, e_bi, e_isi, e_dft, e_new, e_join, e_dct0, e_dct1, bi_tupL, bi_tupT, es_nil, es_cons, t_and, t_or, t_not, t_cmp, t_chain, t_val, t_yes, ta_1, ta_s, to_1, to_s, ea_1, ea_s, eo_1, eo_s, p_none, p_some, intP_int, f_lst, f_cutL, f_rev, f_cat, f_listOf, f_call, f_repE, f_lrange, i_zip, f_sorted, f_sortSet, f_sortK, c_ltT, e_newI, e_peekI, e_isiC, e_lenSet, f_meth, i_seq, i_r1, i_r2, i_r3, slot_0, slot_s, slotO_0, slotO_s, slotA_0, slotA_s, b_add, b_sub, b_mul, b_fdiv, b_mod, b_pow, c_lt, c_le, c_gt, c_ge, c_eq, c_ne, x_lst, x_tup, len_lst, len_tup, bi_abs, bi_max2, bi_min2, bi_min3, bi_max3, is_int, is_lst, tr_bl, tr_int, tr_lst, ne_int, it_lst, it_tup, om_app, dr_lst, sd_lst, sd_tup, lstD_lst, tupD_tup, lO_l, lft_some, lft_map, lft_bind, au_add, au_sub, List.set_cons_zero, List.set_cons_succ, decide_eq_true_eq, Bool.not_eq_true', Bool.false_eq_true, Bool.true_eq_false, if_true, if_false, List.map_cons, List.map_nil, p10_6, p10_9, p10_11, p10_12, p10_18, w_nil, w_asg, w_asgO, w_asgC, w_asgT, w_par, w_aug, w_setC, w_augC, w_setO, w_augO, w_mtO, w_mtC, w_if, w_for, w_ret, w_retF, w_retV, w_retN, w_exp, w_pass, w_brk, w_cont]
    refine ⟨_, _, rfl, by omega, ?_, hh, h4.trans ho⟩
    rw [Int.pow_succ]
    have : t + 1 ≤ (1000003 : Int) ^ i := h2
    generalize (1000003 : Int) ^ i = w at this ⊢
    omega
end Mn
set_option Elab.async false
set_option linter.all false
set_option maxRecDepth 100000
set_option maxHeartbeats 4000000
namespace K19
open PySem L2 Mn

def b_law_open : MSs := (.cons 
  (.asgO 2 (.comp [5] (.one 5) (.seq (.fz (.cutL (.var 0) .none (.some (.int 63))))) .yes (.bi .abs (.cons (.var 5) .nil)))) (.cons 
  (.frz 2) (.cons 
  (.ifS (.cmpQ .eq (.var 2) (.fz (.lst .nil))) (.cons 
  (.asg 2 (.fz (.lst (.cons (.int 0) .nil)))) .nil) .nil) (.cons 
  (.asg 3 (.bin .mod (.var 1) (.bi .len (.cons (.var 2) .nil)))) (.cons 
  (.asg 4 (.int 0)) (.cons 
  (.ifS (.andQ (.cons (.cmpQ .ge (.idx (.var 2) (.var 3)) (.bin .pow (.int 10) (.int 18))) (.cons (.cmpQ .lt (.var 1) (.bi .len (.cons (.var 2) .nil))) .nil))) (.cons 
  (.asg 4 (.idx (.var 2) (.var 3))) .nil) .nil) (.cons 
  (.ret (.newL (.cons (.var 4) (.cons (.bin .add (.int 1) (.bin .mul (.int 101) (.var 1))) (.cons (.fz (.cat (.fz (.cutL (.var 2) (.some (.var 3)) .none)) (.fz (.cutL (.var 2) .none (.some (.var 3)))))) .nil))))) .nil)))))))
def b_law_draw : MSs := (.cons 
  (.ifS (.cmpQ .gt (.idx (.var 0) (.int 0)) (.int 0)) (.cons 
  (.asg 4 (.bin .mod (.idx (.var 0) (.int 0)) (.var 1))) (.cons 
  (.setC (.var 0) (.int 0) (.bin .fdiv (.idx (.var 0) (.int 0)) (.var 1))) (.cons 
  (.ret (.var 4)) .nil))) .nil) (.cons 
  (.augC (.var 0) (.int 1) .add (.int 1)) (.cons 
  (.asg 2 (.bin .mod (.idx (.idx (.var 0) (.int 2)) (.bin .mod (.idx (.var 0) (.int 1)) (.bi .len (.cons (.idx (.var 0) (.int 2)) .nil)))) (.int 2147483647))) (.cons 
  (.asg 3 (.bin .mod (.bin .add (.bin .add (.bin .mul (.var 2) (.int 48271)) (.bin .mul (.idx (.var 0) (.int 1)) (.int 7368787))) (.int 11)) (.int 998244353))) (.cons 
  (.asg 3 (.bin .mod (.bin .add (.bin .mul (.var 3) (.var 3)) (.idx (.var 0) (.int 1))) (.int 998244353))) (.cons 
  (.asg 3 (.bin .mod (.bin .add (.bin .mul (.var 3) (.int 40503203)) (.int 12345)) (.int 2147483647))) (.cons 
  (.ret (.bin .mod (.bin .fdiv (.bin .mod (.bin .mul (.var 3) (.var 3)) (.int 1000000007)) (.int 64)) (.var 1))) .nil)))))))
def b_law_far : MSs := (.cons 
  (.asg 2 (.int 0)) (.cons 
  (.forS (.one 3) (.r1 (.int 11)) (.cons 
  (.asg 2 (.bin .add (.bin .mul (.var 2) (.int 1000003)) (.fz (.call 1 (.cons (.var 0) (.cons (.int 1000003) .nil)))))) .nil)) (.cons 
  (.ret (.bin .mod (.var 2) (.var 1))) .nil)))
def b_law_letters : MSs := (.cons 
  (.ret (.bm .join (.str []) (.cons (.fz (.comp [2] (.one 2) (.r1 (.var 1)) .yes (.idx (.str [97, 98, 99, 100, 101, 102, 103, 104, 105, 106, 107, 108, 109, 110, 111, 112, 113, 114, 115, 116, 117, 118, 119, 120, 121, 122]) (.fz (.call 1 (.cons (.var 0) (.cons (.int 26) .nil))))))) .nil))) .nil)
def b_law_raised : MSs := (.cons 
  (.ifS (.cmpQ .eq (.var 0) (.int 0)) (.cons 
  (.raisC 0 .nil) .nil) .nil) (.cons 
  (.ifS (.cmpQ .eq (.var 0) (.int 1)) (.cons 
  (.raisC 1 .nil) .nil) .nil) (.cons 
  (.ifS (.cmpQ .eq (.var 0) (.int 2)) (.cons 
  (.raisC 2 .nil) .nil) .nil) (.cons 
  (.ifS (.cmpQ .eq (.var 0) (.int 3)) (.cons 
  (.raisC 3 .nil) .nil) .nil) (.cons 
  (.ifS (.cmpQ .eq (.var 0) (.int 4)) (.cons 
  (.raisC 4 (.cons (.var 2) .nil)) .nil) .nil) (.cons 
  (.ifS (.cmpQ .eq (.var 0) (.int 5)) (.cons 
  (.raisC 5 (.cons (.var 1) .nil)) .nil) .nil) (.cons 
  (.ifS (.cmpQ .eq (.var 0) (.int 6)) (.cons 
  (.raisC 6 (.cons (.var 1) .nil)) .nil) .nil) (.cons 
  (.ifS (.cmpQ .eq (.var 0) (.int 7)) (.cons 
  (.raisC 7 (.cons (.var 1) .nil)) .nil) .nil) (.cons 
  (.ifS (.cmpQ .eq (.var 0) (.int 8)) (.cons 
  (.raisC 8 (.cons (.var 2) .nil)) .nil) .nil) (.cons 
  (.ifS (.cmpQ .eq (.var 0) (.int 9)) (.cons 
  (.raisC 9 .nil) .nil) .nil) (.cons 
  (.ifS (.cmpQ .eq (.var 0) (.int 10)) (.cons 
  (.raisC 10 .nil) .nil) .nil) (.cons 
  (.ifS (.cmpQ .eq (.var 0) (.int 11)) (.cons 
  (.raisC 11 (.cons (.var 2) .nil)) .nil) .nil) (.cons 
  (.ifS (.cmpQ .eq (.var 0) (.int 12)) (.cons 
  (.raisC 12 .nil) .nil) .nil) (.cons 
  (.ifS (.cmpQ .eq (.var 0) (.int 13)) (.cons 
  (.raisC 13 .nil) .nil) .nil) (.cons 
  (.raisC 14 (.cons (.var 2) .nil)) .nil)))))))))))))))
def b_law_kinds : MSs := (.cons 
  (.tryS (.cons 
  (.cx .exp 4 (.cons (.var 0) (.cons (.var 1) (.cons (.var 2) .nil)))) .nil) (.cons "WeirError" [(0, true), (1, true), (2, true), (3, true), (4, true), (5, true), (6, true), (7, true), (8, true), (9, true), (10, true), (11, true), (12, true), (13, true), (14, true)] (some 4) (.cons 
  (.asg 3 (.fz (.lst (.cons (.xis 4 "Late" [(0, true), (1, false), (2, false), (3, false), (4, false), (5, false), (6, false), (7, false), (8, false), (9, false), (10, false), (11, false), (12, false), (13, false), (14, false)]) (.cons (.xis 4 "Fixed" [(0, false), (1, true), (2, false), (3, false), (4, false), (5, false), (6, false), (7, false), (8, false), (9, false), (10, false), (11, false), (12, false), (13, false), (14, false)]) (.cons (.xis 4 "BackMark" [(0, false), (1, false), (2, true), (3, false), (4, false), (5, false), (6, false), (7, false), (8, false), (9, false), (10, false), (11, false), (12, false), (13, false), (14, false)]) (.cons (.xis 4 "NotLoose" [(0, false), (1, false), (2, false), (3, true), (4, false), (5, false), (6, false), (7, false), (8, false), (9, false), (10, false), (11, false), (12, false), (13, false), (14, false)]) .nil))))))) (.cons 
  (.asg 3 (.fz (.cat (.var 3) (.fz (.lst (.cons (.xis 4 "NoText" [(0, false), (1, false), (2, false), (3, false), (4, true), (5, false), (6, false), (7, false), (8, false), (9, false), (10, false), (11, false), (12, false), (13, false), (14, false)]) (.cons (.xis 4 "NoName" [(0, false), (1, false), (2, false), (3, false), (4, false), (5, true), (6, false), (7, false), (8, false), (9, false), (10, false), (11, false), (12, false), (13, false), (14, false)]) (.cons (.xis 4 "NoRoad" [(0, false), (1, false), (2, false), (3, false), (4, false), (5, false), (6, true), (7, false), (8, false), (9, false), (10, false), (11, false), (12, false), (13, false), (14, false)]) (.cons (.xis 4 "Taken" [(0, false), (1, false), (2, false), (3, false), (4, false), (5, false), (6, false), (7, true), (8, false), (9, false), (10, false), (11, false), (12, false), (13, false), (14, false)]) .nil))))))))) (.cons 
  (.asg 3 (.fz (.cat (.var 3) (.fz (.lst (.cons (.xis 4 "Gap" [(0, false), (1, false), (2, false), (3, false), (4, false), (5, false), (6, false), (7, false), (8, true), (9, false), (10, false), (11, false), (12, false), (13, false), (14, false)]) (.cons (.xis 4 "Ended" [(0, false), (1, false), (2, false), (3, false), (4, false), (5, false), (6, false), (7, false), (8, false), (9, true), (10, false), (11, false), (12, false), (13, false), (14, false)]) (.cons (.xis 4 "Begun" [(0, false), (1, false), (2, false), (3, false), (4, false), (5, false), (6, false), (7, false), (8, false), (9, false), (10, true), (11, false), (12, false), (13, false), (14, false)]) (.cons (.xis 4 "NoQuestion" [(0, false), (1, false), (2, false), (3, false), (4, false), (5, false), (6, false), (7, false), (8, false), (9, false), (10, false), (11, true), (12, false), (13, false), (14, false)]) .nil))))))))) (.cons 
  (.asg 3 (.fz (.cat (.var 3) (.fz (.lst (.cons (.xis 4 "NoKeep" [(0, false), (1, false), (2, false), (3, false), (4, false), (5, false), (6, false), (7, false), (8, false), (9, false), (10, false), (11, false), (12, true), (13, false), (14, false)]) (.cons (.xis 4 "NoLine" [(0, false), (1, false), (2, false), (3, false), (4, false), (5, false), (6, false), (7, false), (8, false), (9, false), (10, false), (11, false), (12, false), (13, true), (14, false)]) (.cons (.xis 4 "Untaken" [(0, false), (1, false), (2, false), (3, false), (4, false), (5, false), (6, false), (7, false), (8, false), (9, false), (10, false), (11, false), (12, false), (13, false), (14, true)]) .nil)))))))) (.cons 
  (.retF (.cat (.var 3) (.fz (.lst (.cons (.xis 4 "ValueError" [(0, true), (1, true), (2, true), (3, true), (4, true), (5, true), (6, true), (7, true), (8, true), (9, true), (10, true), (11, true), (12, true), (13, true), (14, true)]) .nil))))) .nil))))) .nil)) (.cons 
  (.retF (.lst .nil)) .nil))
def b_law_at : MSs := (.cons 
  (.tryS (.cons 
  (.cx .exp 4 (.cons (.var 0) (.cons (.str []) (.cons (.var 1) .nil)))) .nil) (.cons "NoText" [(0, false), (1, false), (2, false), (3, false), (4, true), (5, false), (6, false), (7, false), (8, false), (9, false), (10, false), (11, false), (12, false), (13, false), (14, false)] (some 2) (.cons 
  (.retF (.lst (.cons (.xfl 2 "at" [4, 11]) .nil))) .nil) (.cons "NoQuestion" [(0, false), (1, false), (2, false), (3, false), (4, false), (5, false), (6, false), (7, false), (8, false), (9, false), (10, false), (11, true), (12, false), (13, false), (14, false)] (some 2) (.cons 
  (.retF (.lst (.cons (.xfl 2 "at" [4, 11]) .nil))) .nil) .nil))) (.cons 
  (.retF (.lst .nil)) .nil))
def b_law_wanted : MSs := (.cons 
  (.tryS (.cons 
  (.cx .exp 4 (.cons (.var 0) (.cons (.str []) (.cons (.var 1) .nil)))) .nil) (.cons "Gap" [(0, false), (1, false), (2, false), (3, false), (4, false), (5, false), (6, false), (7, false), (8, true), (9, false), (10, false), (11, false), (12, false), (13, false), (14, false)] (some 2) (.cons 
  (.retF (.lst (.cons (.xfl 2 "wanted" [8, 14]) .nil))) .nil) (.cons "Untaken" [(0, false), (1, false), (2, false), (3, false), (4, false), (5, false), (6, false), (7, false), (8, false), (9, false), (10, false), (11, false), (12, false), (13, false), (14, true)] (some 2) (.cons 
  (.retF (.lst (.cons (.xfl 2 "wanted" [8, 14]) .nil))) .nil) .nil))) (.cons 
  (.retF (.lst .nil)) .nil))
def b_law_name : MSs := (.cons 
  (.tryS (.cons 
  (.cx .exp 4 (.cons (.var 0) (.cons (.var 1) (.cons (.int 0) .nil)))) .nil) (.cons "NoName" [(0, false), (1, false), (2, false), (3, false), (4, false), (5, true), (6, false), (7, false), (8, false), (9, false), (10, false), (11, false), (12, false), (13, false), (14, false)] (some 2) (.cons 
  (.retF (.lst (.cons (.xfl 2 "name" [5, 6, 7]) .nil))) .nil) (.cons "NoRoad" [(0, false), (1, false), (2, false), (3, false), (4, false), (5, false), (6, true), (7, false), (8, false), (9, false), (10, false), (11, false), (12, false), (13, false), (14, false)] (some 2) (.cons 
  (.retF (.lst (.cons (.xfl 2 "name" [5, 6, 7]) .nil))) .nil) (.cons "Taken" [(0, false), (1, false), (2, false), (3, false), (4, false), (5, false), (6, false), (7, true), (8, false), (9, false), (10, false), (11, false), (12, false), (13, false), (14, false)] (some 2) (.cons 
  (.retF (.lst (.cons (.xfl 2 "name" [5, 6, 7]) .nil))) .nil) .nil)))) (.cons 
  (.retF (.lst .nil)) .nil))
def b_law_is : MSs := (.cons 
  (.ifS (.val (.isi (.var 1) .str)) (.cons 
  (.ret (.andL (.cons (.isi (.var 0) .str) (.cons (.cmp .eq (.var 0) (.var 1)) .nil)))) .nil) .nil) (.cons 
  (.ret (.andL (.cons (.isi (.var 0) .int) (.cons (.notE (.isi (.var 0) .bool)) (.cons (.cmp .eq (.var 0) (.var 1)) .nil))))) .nil))
def b_law : MSs := (.cons 
  (.asg 1 (.fz (.call 0 (.cons (.var 0) (.cons (.int 0) .nil))))) (.cons 
  (.forS (.one 2) (.r1 (.int 15)) (.cons 
  (.asg 3 (.fz (.call 3 (.cons (.var 1) (.cons (.bin .add (.int 1) (.fz (.call 1 (.cons (.var 1) (.cons (.int 8) .nil))))) .nil))))) (.cons 
  (.asg 4 (.fz (.call 2 (.cons (.var 1) (.cons (.bin .add (.bin .pow (.int 10) (.int 60)) (.int 1)) .nil))))) (.cons 
  (.ifS (.cmpQ .eq (.fz (.call 1 (.cons (.var 1) (.cons (.int 3) .nil)))) (.int 0)) (.cons 
  (.asg 4 (.fz (.call 1 (.cons (.var 1) (.cons (.int 4) .nil))))) .nil) .nil) (.cons 
  (.ifS (.cmpQ .ne (.fz (.call 5 (.cons (.var 2) (.cons (.var 3) (.cons (.var 4) .nil))))) (.fz (.cat (.fz (.comp [7] (.one 7) (.r1 (.int 15)) .yes (.cmp .eq (.var 7) (.var 2)))) (.fz (.lst (.cons (.bl true) .nil)))))) (.cons 
  (.ret (.bl false)) .nil) .nil) (.cons 
  (.asg 5 (.fz (.lst .nil))) (.cons 
  (.asg 6 (.var 4)) (.cons 
  (.ifS (.cmpQ .isin (.var 2) (.tup (.cons (.int 4) (.cons (.int 11) .nil)))) (.cons 
  (.asg 5 (.fz (.call 6 (.cons (.var 2) (.cons (.var 4) .nil))))) .nil) (.cons 
  (.ifS (.cmpQ .isin (.var 2) (.tup (.cons (.int 8) (.cons (.int 14) .nil)))) (.cons 
  (.asg 5 (.fz (.call 7 (.cons (.var 2) (.cons (.var 4) .nil))))) .nil) (.cons 
  (.ifS (.cmpQ .isin (.var 2) (.tup (.cons (.int 5) (.cons (.int 6) (.cons (.int 7) .nil))))) (.cons 
  (.asg 5 (.fz (.call 8 (.cons (.var 2) (.cons (.var 3) .nil))))) (.cons 
  (.asg 6 (.var 3)) .nil)) (.cons 
  (.asg 5 (.fz (.lst (.cons (.var 4) .nil)))) .nil)) .nil)) .nil)) (.cons 
  (.ifS (.orQ (.cons (.cmpQ .ne (.bi .len (.cons (.var 5) .nil)) (.int 1)) (.cons (.notQ (.val (.fz (.call 9 (.cons (.idx (.var 5) (.int 0)) (.cons (.var 6) .nil)))))) .nil))) (.cons 
  (.ret (.bl false)) .nil) .nil) .nil))))))))) (.cons 
  (.ret (.bl true)) .nil)))
def P : Pg := ⟨[⟨2, 6, b_law_open⟩, ⟨2, 5, b_law_draw⟩, ⟨2, 4, b_law_far⟩, ⟨2, 3, b_law_letters⟩, ⟨3, 3, b_law_raised⟩, ⟨3, 5, b_law_kinds⟩, ⟨2, 3, b_law_at⟩, ⟨2, 3, b_law_wanted⟩, ⟨2, 3, b_law_name⟩, ⟨2, 2, b_law_is⟩, ⟨1, 8, b_law⟩], 4096⟩
def xs_0 : List (Str × Nat × Bool) := [(("Late" : Str), 0, true), (("Late" : Str), 1, false), (("Late" : Str), 2, false), (("Late" : Str), 3, false), (("Late" : Str), 4, false), (("Late" : Str), 5, false), (("Late" : Str), 6, false), (("Late" : Str), 7, false), (("Late" : Str), 8, false), (("Late" : Str), 9, false), (("Late" : Str), 10, false), (("Late" : Str), 11, false), (("Late" : Str), 12, false), (("Late" : Str), 13, false), (("Late" : Str), 14, false)]
def xs_1 : List (Str × Nat × Bool) := [(("Fixed" : Str), 0, false), (("Fixed" : Str), 1, true), (("Fixed" : Str), 2, false), (("Fixed" : Str), 3, false), (("Fixed" : Str), 4, false), (("Fixed" : Str), 5, false), (("Fixed" : Str), 6, false), (("Fixed" : Str), 7, false), (("Fixed" : Str), 8, false), (("Fixed" : Str), 9, false), (("Fixed" : Str), 10, false), (("Fixed" : Str), 11, false), (("Fixed" : Str), 12, false), (("Fixed" : Str), 13, false), (("Fixed" : Str), 14, false)]
def xs_2 : List (Str × Nat × Bool) := [(("BackMark" : Str), 0, false), (("BackMark" : Str), 1, false), (("BackMark" : Str), 2, true), (("BackMark" : Str), 3, false), (("BackMark" : Str), 4, false), (("BackMark" : Str), 5, false), (("BackMark" : Str), 6, false), (("BackMark" : Str), 7, false), (("BackMark" : Str), 8, false), (("BackMark" : Str), 9, false), (("BackMark" : Str), 10, false), (("BackMark" : Str), 11, false), (("BackMark" : Str), 12, false), (("BackMark" : Str), 13, false), (("BackMark" : Str), 14, false)]
def xs_3 : List (Str × Nat × Bool) := [(("NotLoose" : Str), 0, false), (("NotLoose" : Str), 1, false), (("NotLoose" : Str), 2, false), (("NotLoose" : Str), 3, true), (("NotLoose" : Str), 4, false), (("NotLoose" : Str), 5, false), (("NotLoose" : Str), 6, false), (("NotLoose" : Str), 7, false), (("NotLoose" : Str), 8, false), (("NotLoose" : Str), 9, false), (("NotLoose" : Str), 10, false), (("NotLoose" : Str), 11, false), (("NotLoose" : Str), 12, false), (("NotLoose" : Str), 13, false), (("NotLoose" : Str), 14, false)]
def xs_4 : List (Str × Nat × Bool) := [(("NoText" : Str), 0, false), (("NoText" : Str), 1, false), (("NoText" : Str), 2, false), (("NoText" : Str), 3, false), (("NoText" : Str), 4, true), (("NoText" : Str), 5, false), (("NoText" : Str), 6, false), (("NoText" : Str), 7, false), (("NoText" : Str), 8, false), (("NoText" : Str), 9, false), (("NoText" : Str), 10, false), (("NoText" : Str), 11, false), (("NoText" : Str), 12, false), (("NoText" : Str), 13, false), (("NoText" : Str), 14, false)]
def xs_5 : List (Str × Nat × Bool) := [(("NoName" : Str), 0, false), (("NoName" : Str), 1, false), (("NoName" : Str), 2, false), (("NoName" : Str), 3, false), (("NoName" : Str), 4, false), (("NoName" : Str), 5, true), (("NoName" : Str), 6, false), (("NoName" : Str), 7, false), (("NoName" : Str), 8, false), (("NoName" : Str), 9, false), (("NoName" : Str), 10, false), (("NoName" : Str), 11, false), (("NoName" : Str), 12, false), (("NoName" : Str), 13, false), (("NoName" : Str), 14, false)]
def xs_6 : List (Str × Nat × Bool) := [(("NoRoad" : Str), 0, false), (("NoRoad" : Str), 1, false), (("NoRoad" : Str), 2, false), (("NoRoad" : Str), 3, false), (("NoRoad" : Str), 4, false), (("NoRoad" : Str), 5, false), (("NoRoad" : Str), 6, true), (("NoRoad" : Str), 7, false), (("NoRoad" : Str), 8, false), (("NoRoad" : Str), 9, false), (("NoRoad" : Str), 10, false), (("NoRoad" : Str), 11, false), (("NoRoad" : Str), 12, false), (("NoRoad" : Str), 13, false), (("NoRoad" : Str), 14, false)]
def xs_7 : List (Str × Nat × Bool) := [(("Taken" : Str), 0, false), (("Taken" : Str), 1, false), (("Taken" : Str), 2, false), (("Taken" : Str), 3, false), (("Taken" : Str), 4, false), (("Taken" : Str), 5, false), (("Taken" : Str), 6, false), (("Taken" : Str), 7, true), (("Taken" : Str), 8, false), (("Taken" : Str), 9, false), (("Taken" : Str), 10, false), (("Taken" : Str), 11, false), (("Taken" : Str), 12, false), (("Taken" : Str), 13, false), (("Taken" : Str), 14, false)]
def xs_8 : List (Str × Nat × Bool) := [(("Gap" : Str), 0, false), (("Gap" : Str), 1, false), (("Gap" : Str), 2, false), (("Gap" : Str), 3, false), (("Gap" : Str), 4, false), (("Gap" : Str), 5, false), (("Gap" : Str), 6, false), (("Gap" : Str), 7, false), (("Gap" : Str), 8, true), (("Gap" : Str), 9, false), (("Gap" : Str), 10, false), (("Gap" : Str), 11, false), (("Gap" : Str), 12, false), (("Gap" : Str), 13, false), (("Gap" : Str), 14, false)]
def xs_9 : List (Str × Nat × Bool) := [(("Ended" : Str), 0, false), (("Ended" : Str), 1, false), (("Ended" : Str), 2, false), (("Ended" : Str), 3, false), (("Ended" : Str), 4, false), (("Ended" : Str), 5, false), (("Ended" : Str), 6, false), (("Ended" : Str), 7, false), (("Ended" : Str), 8, false), (("Ended" : Str), 9, true), (("Ended" : Str), 10, false), (("Ended" : Str), 11, false), (("Ended" : Str), 12, false), (("Ended" : Str), 13, false), (("Ended" : Str), 14, false)]
def xs_10 : List (Str × Nat × Bool) := [(("Begun" : Str), 0, false), (("Begun" : Str), 1, false), (("Begun" : Str), 2, false), (("Begun" : Str), 3, false), (("Begun" : Str), 4, false), (("Begun" : Str), 5, false), (("Begun" : Str), 6, false), (("Begun" : Str), 7, false), (("Begun" : Str), 8, false), (("Begun" : Str), 9, false), (("Begun" : Str), 10, true), (("Begun" : Str), 11, false), (("Begun" : Str), 12, false), (("Begun" : Str), 13, false), (("Begun" : Str), 14, false)]
def xs_11 : List (Str × Nat × Bool) := [(("NoQuestion" : Str), 0, false), (("NoQuestion" : Str), 1, false), (("NoQuestion" : Str), 2, false), (("NoQuestion" : Str), 3, false), (("NoQuestion" : Str), 4, false), (("NoQuestion" : Str), 5, false), (("NoQuestion" : Str), 6, false), (("NoQuestion" : Str), 7, false), (("NoQuestion" : Str), 8, false), (("NoQuestion" : Str), 9, false), (("NoQuestion" : Str), 10, false), (("NoQuestion" : Str), 11, true), (("NoQuestion" : Str), 12, false), (("NoQuestion" : Str), 13, false), (("NoQuestion" : Str), 14, false)]
def xs_12 : List (Str × Nat × Bool) := [(("NoKeep" : Str), 0, false), (("NoKeep" : Str), 1, false), (("NoKeep" : Str), 2, false), (("NoKeep" : Str), 3, false), (("NoKeep" : Str), 4, false), (("NoKeep" : Str), 5, false), (("NoKeep" : Str), 6, false), (("NoKeep" : Str), 7, false), (("NoKeep" : Str), 8, false), (("NoKeep" : Str), 9, false), (("NoKeep" : Str), 10, false), (("NoKeep" : Str), 11, false), (("NoKeep" : Str), 12, true), (("NoKeep" : Str), 13, false), (("NoKeep" : Str), 14, false)]
def xs_13 : List (Str × Nat × Bool) := [(("NoLine" : Str), 0, false), (("NoLine" : Str), 1, false), (("NoLine" : Str), 2, false), (("NoLine" : Str), 3, false), (("NoLine" : Str), 4, false), (("NoLine" : Str), 5, false), (("NoLine" : Str), 6, false), (("NoLine" : Str), 7, false), (("NoLine" : Str), 8, false), (("NoLine" : Str), 9, false), (("NoLine" : Str), 10, false), (("NoLine" : Str), 11, false), (("NoLine" : Str), 12, false), (("NoLine" : Str), 13, true), (("NoLine" : Str), 14, false)]
def xs_14 : List (Str × Nat × Bool) := [(("Untaken" : Str), 0, false), (("Untaken" : Str), 1, false), (("Untaken" : Str), 2, false), (("Untaken" : Str), 3, false), (("Untaken" : Str), 4, false), (("Untaken" : Str), 5, false), (("Untaken" : Str), 6, false), (("Untaken" : Str), 7, false), (("Untaken" : Str), 8, false), (("Untaken" : Str), 9, false), (("Untaken" : Str), 10, false), (("Untaken" : Str), 11, false), (("Untaken" : Str), 12, false), (("Untaken" : Str), 13, false), (("Untaken" : Str), 14, true)]
def xs_15 : List (Str × Nat × Bool) := [(("ValueError" : Str), 0, true), (("ValueError" : Str), 1, true), (("ValueError" : Str), 2, true), (("ValueError" : Str), 3, true), (("ValueError" : Str), 4, true), (("ValueError" : Str), 5, true), (("ValueError" : Str), 6, true), (("ValueError" : Str), 7, true), (("ValueError" : Str), 8, true), (("ValueError" : Str), 9, true), (("ValueError" : Str), 10, true), (("ValueError" : Str), 11, true), (("ValueError" : Str), 12, true), (("ValueError" : Str), 13, true), (("ValueError" : Str), 14, true)]
def xs_16 : List (Str × Nat × Bool) := [(("WeirError" : Str), 0, true), (("WeirError" : Str), 1, true), (("WeirError" : Str), 2, true), (("WeirError" : Str), 3, true), (("WeirError" : Str), 4, true), (("WeirError" : Str), 5, true), (("WeirError" : Str), 6, true), (("WeirError" : Str), 7, true), (("WeirError" : Str), 8, true), (("WeirError" : Str), 9, true), (("WeirError" : Str), 10, true), (("WeirError" : Str), 11, true), (("WeirError" : Str), 12, true), (("WeirError" : Str), 13, true), (("WeirError" : Str), 14, true)]
def G : Gi := { fn := ["_law_open", "_law_draw", "_law_far", "_law_letters", "_law_raised", "_law_kinds", "_law_at", "_law_wanted", "_law_name", "_law_is", "law"], cs := [], bl := ["abs", "bool", "int", "isinstance", "len", "range", "str"], cl := [], mt := [], ic := [], xc := [("Late", []), ("Fixed", []), ("BackMark", []), ("NotLoose", []), ("NoText", ["at"]), ("NoName", ["name"]), ("NoRoad", ["name"]), ("Taken", ["name"]), ("Gap", ["wanted"]), ("Ended", []), ("Begun", []), ("NoQuestion", ["at"]), ("NoKeep", []), ("NoLine", []), ("Untaken", ["wanted"])], xs := (xs_0 ++ (xs_1 ++ (xs_2 ++ (xs_3 ++ (xs_4 ++ (xs_5 ++ (xs_6 ++ (xs_7 ++ (xs_8 ++ (xs_9 ++ (xs_10 ++ (xs_11 ++ (xs_12 ++ (xs_13 ++ (xs_14 ++ (xs_15 ++ (xs_16 ++ []))))))))))))))))) }
-- _law_open: 0=_law_script 1=_law_place 2=_law_cells 3=_law_at_here 4=_law_digits 5=_law_cell
-- _law_draw: 0=_law_hand 1=_law_many 2=_law_cell 3=_law_number 4=_law_got
-- _law_far: 0=_law_hand 1=_law_bound 2=_law_total 3=_law_k
-- _law_letters: 0=_law_hand 1=_law_many 2=_law_k
-- _law_raised: 0=_law_k 1=_law_word 2=_law_number
-- _law_kinds: 0=_law_k 1=_law_word 2=_law_number 3=_law_first 4=e
-- _law_at: 0=_law_k 1=_law_number 2=e
-- _law_wanted: 0=_law_k 1=_law_number 2=e
-- _law_name: 0=_law_k 1=_law_word 2=e
-- _law_is: 0=_law_found 1=_law_due
-- law: 0=_law_script 1=_law_hand 2=_law_k 3=_law_word 4=_law_number 5=_law_found 6=_law_due 7=_law_one
abbrev no_law_open : Nat := 0
abbrev no_law_draw : Nat := 1
abbrev no_law_far : Nat := 2
abbrev no_law_letters : Nat := 3
abbrev no_law_raised : Nat := 4
abbrev no_law_kinds : Nat := 5
abbrev no_law_at : Nat := 6
abbrev no_law_wanted : Nat := 7
abbrev no_law_name : Nat := 8
abbrev no_law_is : Nat := 9
abbrev no_law : Nat := 10
end K19
namespace K19
open PySem L2 Mn
def dep : Nat := 10
theorem hdraw : P.funs[no_law_draw]? = some ⟨2, 5, b_draw⟩ := rfl
theorem hopen : P.funs[no_law_open]? = some ⟨2, 6, b_open⟩ := rfl
theorem hfar : P.funs[no_law_far]? = some ⟨2, 4, b_far no_law_draw⟩ := rfl
section
variable {s : Sto} {Q : Bool → Prop} {QD : D → Prop}
theorem isN_i {i : Int} : lft (cmpD .isN s (.int i) .non) Q = Q false := rfl
theorem isN_n : lft (cmpD .isN s .non .non) Q = Q true := rfl
theorem isN_t {xs : List D} : lft (cmpD .isN s (.tup xs) .non) Q = Q false := rfl
theorem ntN_i {i : Int} : lft (cmpD .notN s (.int i) .non) Q = Q true := rfl
theorem ntN_n : lft (cmpD .notN s .non .non) Q = Q false := rfl
theorem ntN_t {xs : List D} : lft (cmpD .notN s (.tup xs) .non) Q = Q true := rfl
theorem tr_n : lft (truth s .non) Q = Q false := rfl
theorem c_eqS {x y : List Nat} : lft (cmpD .eq s (.str x) (.str y)) Q = Q (decide (x = y)) := by
  show lft (eqD s (.str x) (.str y)) Q = _
  rw [show eqD s (.str x) (.str y) = some (D.eqv (.str x) (.str y)) from if_pos ⟨rfl, rfl, Nat.zero_le _⟩]
  simp only [D.eqv, lft_some]
theorem c_neS {x y : List Nat} : lft (cmpD .ne s (.str x) (.str y)) Q = Q (!decide (x = y)) := by
  show lft ((eqD s (.str x) (.str y)).map not) Q = _
  rw [show eqD s (.str x) (.str y) = some (D.eqv (.str x) (.str y)) from if_pos ⟨rfl, rfl, Nat.zero_le _⟩]
  simp only [D.eqv, Option.map_some, lft_some]
theorem is_str {z : List Nat} {t : Ty} : lft (isiD s (.str z) t) Q = Q (match t with | .str => true | _ => false) := rfl
theorem is_tupT {xs : List D} {t : Ty} : lft (isiD s (.tup xs) t) Q = Q (match t with | .tup => true | _ => false) := rfl
theorem is_non {t : Ty} : lft (isiD s .non t) Q = Q false := by cases t <;> rfl
theorem intsD_intL : ∀ l : List Int, intsD (intL l) = some l
  | [] => rfl
  | x :: l => by
    show (intsD (intL l)).map (x :: ·) = _
    rw [intsD_intL l]; rfl
theorem eqv_ints : ∀ l m : List Int, D.eqvL (intL l) (intL m) = decide (l = m)
  | [], [] => rfl
  | [], _ :: _ => rfl
  | _ :: _, [] => rfl
  | x :: l, y :: m => by
    show (D.eqv (.int x) (.int y) && D.eqvL (intL l) (intL m)) = _
    rw [eqv_ints l m]
    simp only [D.eqv]
    by_cases h1 : x = y <;> by_cases h2 : l = m <;> simp [h1, h2]
theorem in_any (v : Int) : ∀ l : List Int, ((intL l).any fun z => D.eqv z (.int v)) = decide (v ∈ l)
  | [] => rfl
  | x :: l => by
    show (D.eqv (.int x) (.int v) || (intL l).any fun z => D.eqv z (.int v)) = _
    rw [in_any v l]
    simp only [D.eqv]
    by_cases h1 : x = v
    · subst h1; simp
    · have h2 : v ≠ x := fun e => h1 e.symm
      simp [h1, h2]
theorem inD_ints {y : D} {v : Int} {l : List Int} (h : seqD s y = some (intL l)) : inD s (.int v) y = some (decide (v ∈ l)) := by
  have : inD s (.int v) y = (match seqD s y with
    | some ys => if (deref s (.int v)).plain = true ∧ D.plainL ys = true ∧ min (D.depL ys) (deref s (.int v)).dep ≤ 60 then some (ys.any fun z => D.eqv z (deref s (.int v))) else none
    | none => none) := by
    unfold inD
    cases y <;> rfl
  rw [this, h]
  dsimp only
  rw [if_pos ⟨rfl, intL_plain l, Nat.le_trans (Nat.min_le_right _ _) (show (0 : Nat) ≤ 60 by decide)⟩]
  exact congrArg some (in_any v l)
theorem c_in {y : D} {v : Int} {l : List Int} (h : seqD s y = some (intL l)) : lft (cmpD .isin s (.int v) y) Q = Q (decide (v ∈ l)) := by
  show lft (inD s (.int v) y) Q = _
  rw [inD_ints h]; rfl
theorem c_ni {y : D} {v : Int} {l : List Int} (h : seqD s y = some (intL l)) : lft (cmpD .notin s (.int v) y) Q = Q (!decide (v ∈ l)) := by
  show lft ((inD s (.int v) y).map not) Q = _
  rw [inD_ints h]; rfl
theorem eq_dL {a b : D} {l m : List Int} (ha : deref s a = .lst (intL l)) (hb : deref s b = .lst (intL m)) : eqD s a b = some (decide (l = m)) := by
  unfold eqD
  rw [ha, hb]
  rw [if_pos ⟨by simp only [D.plain]; exact intL_plain l, by simp only [D.plain]; exact intL_plain m, Nat.le_trans (Nat.min_le_left _ _) (by simp only [D.dep]; rw [intL_dep]; decide)⟩]
  simp only [D.eqv, eqv_ints]
theorem c_eqL {a b : D} {l m : List Int} (ha : deref s a = .lst (intL l)) (hb : deref s b = .lst (intL m)) : lft (cmpD .eq s a b) Q = Q (decide (l = m)) := by
  show lft (eqD s a b) Q = _
  rw [eq_dL ha hb]; rfl
theorem c_neL {a b : D} {l m : List Int} (ha : deref s a = .lst (intL l)) (hb : deref s b = .lst (intL m)) : lft (cmpD .ne s a b) Q = Q (!decide (l = m)) := by
  show lft ((eqD s a b).map not) Q = _
  rw [eq_dL ha hb]; rfl
theorem c_eqT {l m : List Int} : lft (cmpD .eq s (.tup (intL l)) (.tup (intL m))) Q = Q (decide (l = m)) := by
  show lft (eqD s _ _) Q = _
  have : eqD s (.tup (intL l)) (.tup (intL m)) = some (decide (l = m)) := by
    unfold eqD deref
    dsimp only
    rw [if_pos ⟨by simp only [D.plain]; exact intL_plain l, by simp only [D.plain]; exact intL_plain m, Nat.le_trans (Nat.min_le_left _ _) (by simp only [D.dep]; rw [intL_dep]; decide)⟩]
    simp only [D.eqv, eqv_ints]
  rw [this]; rfl
theorem dr_ref {n : Nat} {xs : List D} (h : s.c[n]? = some (.L xs)) : deref s (.ref n) = .lst xs := by simp only [deref, h]
theorem ld_of {d : D} {xs : List D} (h : deref s d = .lst xs) : listD s d = some xs := by simp only [listD, h]
theorem sd_of {d : D} {xs : List D} (h : deref s d = .lst xs) : seqD s d = some xs := by
  cases d <;> simp only [deref] at h <;> try (cases h; done)
  · cases h; rfl
  · rename_i n
    simp only [seqD]
    split at h
    · rename_i ys hy; cases h; first | rfl | rw [hy]
    · cases h
theorem ins_of {n c : Nat} {fs : List (Nat × D)} (h : s.c[n]? = some (.I c fs)) : insD s (.ref n) = some c := by simp only [insD, h]
end
section
variable {tg : MT} {b : Sto → Lcs → Rs} {E : En} {t : Wk}
/-- for, over what stands still in the store -/
theorem wp_forT (Inv : List D → Sto → Lcs → Prop) (still : ∀ xs s δ, Inv xs s δ → t.still s) (done : ∀ s δ, Inv [] s δ → E.nx s δ)
    (step : ∀ x xs s δ, Inv (x :: xs) s δ → ∃ δ1, bindT tg x δ = some δ1 ∧ wp (b s δ1) ⟨Inv xs, E.nx, Inv xs, E.rt, E.ex⟩) : ∀ (xs : List D) (s : Sto) (δ : Lcs), Inv xs s δ → wp (forGo t tg b xs s δ) E
  | [], s, δ, h => by
    simp only [forGo]
    rw [if_pos (still _ _ _ h)]
    rw [wp_nx]; exact done s δ h
  | x :: xs, s, δ, h => by
    simp only [forGo]
    rw [if_pos (still _ _ _ h)]
    obtain ⟨δ1, h1, h2⟩ := step x xs s δ h
    simp only [h1]
    revert h2
    cases b s δ1 with
    | nx s2 δ2 => exact fun h2 => wp_forT Inv still done step xs s2 δ2 (by simpa only [wp_nx, wp_ct] using h2)
    | ct s2 δ2 => exact fun h2 => wp_forT Inv still done step xs s2 δ2 (by simpa only [wp_nx, wp_ct] using h2)
    | bk s2 δ2 => exact fun h2 => by simpa only [wp_nx, wp_bk, wp_ct, wp_ret, wp_no, wp_ex] using h2
    | ret o s2 => exact fun h2 => by simpa only [wp_nx, wp_bk, wp_ct, wp_ret, wp_no, wp_ex] using h2
    | no => exact fun h2 => by simpa only [wp_nx, wp_bk, wp_ct, wp_ret, wp_no, wp_ex] using h2
    | ex a s2 => exact fun h2 => by simpa only [wp_nx, wp_bk, wp_ct, wp_ret, wp_no, wp_ex] using h2
end


def letters : List Nat := [97, 98, 99, 100, 101, 102, 103, 104, 105, 106, 107, 108, 109, 110, 111, 112, 113, 114, 115, 116, 117, 118, 119, 120, 121, 122]
theorem x_str {z : List Nat} {i : Int} {s : Sto} {Q : D → Prop} (h : z.length ≤ line) : lft (idxD s (.str z) (.int i)) Q = lft (atI z i) fun c => Q (.str [c]) := by
  show lft (if z.length ≤ line then (atI z i).map fun c => D.str [c] else none) Q = _
  rw [if_pos h, lft_map]
theorem strsD_one : ∀ z : List Nat, strsD (z.map fun c => .str [c]) = some (z.map fun c => [c])
  | [] => rfl
  | c :: z => by show (strsD (z.map fun c => D.str [c])).map _ = _; rw [strsD_one z]; rfl
theorem joinL_one : ∀ z : List Nat, TL.joinL [] (z.map fun c => [c]) = z
  | [] => rfl
  | [c] => rfl
  | c :: d :: z => by
    show [c] ++ ([] ++ TL.joinL [] ((d :: z).map fun c => [c])) = _
    rw [joinL_one (d :: z)]; rfl
theorem sum_one (z : List Nat) : ((z.map fun c => [c]).map (·.length)).sum = z.length := by
  induction z with
  | nil => rfl
  | cons c z ih => simp only [List.map_cons, List.sum_cons, ih, List.length_cons, List.length_nil]; omega
theorem join_one {z : List Nat} {s : Sto} {Q : D → Prop} (h : z.length ≤ line) (q : Q (.str z)) : lft (bmD .join s (.str []) [.lst (z.map fun c => .str [c])]) Q := by
  have e : bmD .join s (.str []) [.lst (z.map fun c => .str [c])] = some (.str z) := by
    show (strsD (z.map fun c => D.str [c])).bind _ = _
    rw [strsD_one]
    show (if ((z.map fun c => [c]).map (·.length)).sum + (z.map fun c => [c]).length * ([] : List Nat).length ≤ line then some (D.str (TL.joinL [] (z.map fun c => [c]))) else none) = _
    rw [sum_one, joinL_one, if_pos (by simpa using h)]
  rw [e]
  exact q
theorem sat_letters {s : Sto} {n b k : Nat} {m : Int} {Q : O → Sto → Prop} (h : Hand s n (b + 20)) (h0 : 0 ≤ m) (h1 : m ≤ 20) (q : ∀ z s', (z.length : Int) = m → (∀ c ∈ z, c ∈ letters) → Hand s' n b → Q (.v (.str z)) s') : sat (call P (k + 2) no_law_letters [.ref n, .int m] s) Q := by
  refine sat_call (m := ⟨2, 3, b_law_letters⟩) (δ := [_, _, none]) rfl rfl rfl ?_
  simp only [b_law_letters]
  rw [w_cons, w_ret]
  simp only [e_join, e_str, es_cons, es_nil, e_fz, f_comp, i_r1, e_var, slot_0, slot_s, intP_int, lft_some]
  refine ⟨⟨by omega, by omega⟩, by rw [show (upFrom 0 m.toNat).length = m.toNat by simp [upFrom]]; exact len63 (by omega), ?_⟩
  refine sat_compI rfl (fun xs ys s' => ∃ z : List Nat, ys = z.map (fun c => D.str [c]) ∧ z.length + xs.length = m.toNat ∧ (∀ c ∈ z, c ∈ letters) ∧ Hand s' n (b + xs.length)) (Q := fun ds s5 => lft (bmD .join s5 (.str []) [frzO (.l ds)]) fun z => Q (.v z) s5) ?_ ?_ (upFrom 0 m.toNat) [] s ⟨[], rfl, by simp [upFrom], fun c hc => by simp at hc, h.less (by simp [upFrom]; omega)⟩
  · rintro ys s' ⟨z, rfl, hz, hzl, hh⟩
    have hz' : z.length = m.toNat := by simpa using hz
    exact join_one (len63 (by omega)) (q z s' (by omega) hzl (hh.less (by simp)))
  · rintro x xs ys s' ⟨z, rfl, hz, hzl, hh⟩
    simp only [turnP, bindT, wipeL, sat_bind, sat_ite, sat_ok, t_yes, if_true, e_idx, e_str, e_fz, f_call, es_cons, es_nil, e_var, slot_0, slot_s, List.set_cons_succ, List.set_cons_zero, e_int]
    refine sat_draw (b := b + xs.length) hdraw (hh.less (by simp; omega)) (by omega) (by omega) fun r s2 r0 r1 h2 o2 => ?_
    rw [frz_v, x_str (len63 (by decide))]
    obtain ⟨c, hc, hcm, _⟩ := atI_at (xs := ([97, 98, 99, 100, 101, 102, 103, 104, 105, 106, 107, 108, 109, 110, 111, 112, 113, 114, 115, 116, 117, 118, 119, 120, 121, 122] : List Nat)) r0 (by simpa using r1)
    rw [hc, lft_some]
    exact ⟨z ++ [c], by simp, by simp at hz ⊢; omega, fun e he => by
      rcases List.mem_append.mp he with h | h
      · exact hzl e h
      · rw [List.mem_singleton] at h; rw [h]; exact hcm, h2⟩
theorem cutG_le {α : Type} (xs : List α) (lo hi : Option Int) : (cutG xs lo hi).length ≤ xs.length := by
  unfold cutG
  rw [List.length_take, List.length_drop]
  omega
theorem cut_str {z : List Nat} {lo hi : Option Int} {Q : D → Prop} (h : z.length ≤ line) : lft (cutSD (.str z) lo hi) Q = Q (.str (cutG z lo hi)) := by
  show lft (if z.length ≤ line then some (.str (cutG z lo hi)) else none) Q = _
  rw [if_pos h]; rfl
theorem add_str {x y : List Nat} {Q : D → Prop} (h : x.length + y.length ≤ line) : lft (binD .add (.str x) (.str y)) Q = Q (.str (x ++ y)) := by
  show lft (if x.length + y.length ≤ line then some (.str (x ++ y)) else none) Q = _
  rw [if_pos h]; rfl

/-- what is raised -/
def xs (k : Nat) (w m : D) : List D := if k = 4 ∨ k = 8 ∨ k = 11 ∨ k = 14 then [m] else if k = 5 ∨ k = 6 ∨ k = 7 then [w] else []
theorem is_str' {z : List Nat} {s : Sto} {t : Ty} {Q : Bool → Prop} : lft (isiD s (.str z) t) Q = Q (match t with | .str => true | _ => false) := rfl
theorem is_bl' {b : Bool} {s : Sto} {t : Ty} {Q : Bool → Prop} : lft (isiD s (.bl b) t) Q = Q (match t with | .int => true | .bool => true | _ => false) := rfl
theorem sat_raised {j k : Nat} {w m : D} {s : Sto} {Q : O → Sto → Prop} {X : D → Sto → Prop} (hk : k < 15) (h : X (.tup (.int (k : Int) :: xs k w m)) s) : satX (call P (j + 1) no_law_raised [.int (k : Int), w, m] s) Q X := by
  refine satX_call (m := ⟨3, 3, b_law_raised⟩) (δ := [_, _, _]) rfl rfl rfl ?_
  simp only [b_law_raised]
  rw [w_cons]
  refine w_ifB (decide ((k : Int) = 0)) (by simp only [sat_ok, e_int, e_str, e_non, e_bl, e_gc, e_var, e_bin, e_neg, e_cmp, e_chain, e_and, e_or, e_not, e_ife, e_tup, e_idx, e_cutS, e_fz, frz_v, frz_l, e_peek, e_bi, e_isi, e_dft, e_new, e_join, e_dct0, e_dct1, bi_tupL, bi_tupT, es_nil, es_cons, t_and, t_or, t_not, t_cmp, t_chain, t_val, t_yes, ta_1, ta_s, to_1, to_s, ea_1, ea_s, eo_1, eo_s, p_none, p_some, intP_int, f_lst, f_cutL, f_rev, f_cat, f_listOf, f_call, f_repE, f_lrange, i_zip, f_sorted, f_sortSet, f_sortK, c_ltT, e_newI, e_peekI, e_isiC, e_lenSet, f_meth, i_seq, i_r1, i_r2, i_r3, slot_0, slot_s, slotO_0, slotO_s, slotA_0, slotA_s, b_add, b_sub, b_mul, b_fdiv, b_mod, b_pow, c_lt, c_le, c_gt, c_ge, c_eq, c_ne, x_lst, x_tup, len_lst, len_tup, bi_abs, bi_max2, bi_min2, bi_min3, bi_max3, is_int, is_lst, tr_bl, tr_int, tr_lst, ne_int, it_lst, it_tup, om_app, dr_lst, sd_lst, sd_tup, lstD_lst, tupD_tup, lO_l, lft_some, lft_map, lft_bind, au_add, au_sub, List.set_cons_zero, List.set_cons_succ, decide_eq_true_eq, Bool.not_eq_true', Bool.false_eq_true, Bool.true_eq_false, if_true, if_false, List.map_cons, List.map_nil, p10_6, p10_9, p10_11, p10_12, p10_18]; (first | exact ⟨rfl, rfl⟩ | exact ⟨rfl, trivial⟩ | exact ⟨trivial, rfl⟩ | exact ⟨trivial, trivial⟩ | trivial)) (fun hc => ?_) fun hc => ?_
  · have hc : k = 0 := by have := of_decide_eq_true hc; omega
    subst hc
    rw [w_cons, w_raisC]
    simp only [sat_ok, e_int, e_str, e_non, e_bl, e_gc, e_var, e_bin, e_neg, e_cmp, e_chain, e_and, e_or, e_not, e_ife, e_tup, e_idx, e_cutS, e_fz, frz_v, frz_l, e_peek, e_bi, e_isi, e_dft, e_new, e_join, e_dct0, e_dct1, bi_tupL, bi_tupT, es_nil, es_cons, t_and, t_or, t_not, t_cmp, t_chain, t_val, t_yes, ta_1, ta_s, to_1, to_s, ea_1, ea_s, eo_1, eo_s, p_none, p_some, intP_int, f_lst, f_cutL, f_rev, f_cat, f_listOf, f_call, f_repE, f_lrange, i_zip, f_sorted, f_sortSet, f_sortK, c_ltT, e_newI, e_peekI, e_isiC, e_lenSet, f_meth, i_seq, i_r1, i_r2, i_r3, slot_0, slot_s, slotO_0, slotO_s, slotA_0, slotA_s, b_add, b_sub, b_mul, b_fdiv, b_mod, b_pow, c_lt, c_le, c_gt, c_ge, c_eq, c_ne, x_lst, x_tup, len_lst, len_tup, bi_abs, bi_max2, bi_min2, bi_min3, bi_max3, is_int, is_lst, tr_bl, tr_int, tr_lst, ne_int, it_lst, it_tup, om_app, dr_lst, sd_lst, sd_tup, lstD_lst, tupD_tup, lO_l, lft_some, lft_map, lft_bind, au_add, au_sub, List.set_cons_zero, List.set_cons_succ, decide_eq_true_eq, Bool.not_eq_true', Bool.false_eq_true, Bool.true_eq_false, if_true, if_false, List.map_cons, List.map_nil, p10_6, p10_9, p10_11, p10_12, p10_18]
    exact h
  (rw [w_nil]; dsimp only; rw [w_cons])
  refine w_ifB (decide ((k : Int) = 1)) (by simp only [sat_ok, e_int, e_str, e_non, e_bl, e_gc, e_var, e_bin, e_neg, e_cmp, e_chain, e_and, e_or, e_not, e_ife, e_tup, e_idx, e_cutS, e_fz, frz_v, frz_l, e_peek, e_bi, e_isi, e_dft, e_new, e_join, e_dct0, e_dct1, bi_tupL, bi_tupT, es_nil, es_cons, t_and, t_or, t_not, t_cmp, t_chain, t_val, t_yes, ta_1, ta_s, to_1, to_s, ea_1, ea_s, eo_1, eo_s, p_none, p_some, intP_int, f_lst, f_cutL, f_rev, f_cat, f_listOf, f_call, f_repE, f_lrange, i_zip, f_sorted, f_sortSet, f_sortK, c_ltT, e_newI, e_peekI, e_isiC, e_lenSet, f_meth, i_seq, i_r1, i_r2, i_r3, slot_0, slot_s, slotO_0, slotO_s, slotA_0, slotA_s, b_add, b_sub, b_mul, b_fdiv, b_mod, b_pow, c_lt, c_le, c_gt, c_ge, c_eq, c_ne, x_lst, x_tup, len_lst, len_tup, bi_abs, bi_max2, bi_min2, bi_min3, bi_max3, is_int, is_lst, tr_bl, tr_int, tr_lst, ne_int, it_lst, it_tup, om_app, dr_lst, sd_lst, sd_tup, lstD_lst, tupD_tup, lO_l, lft_some, lft_map, lft_bind, au_add, au_sub, List.set_cons_zero, List.set_cons_succ, decide_eq_true_eq, Bool.not_eq_true', Bool.false_eq_true, Bool.true_eq_false, if_true, if_false, List.map_cons, List.map_nil, p10_6, p10_9, p10_11, p10_12, p10_18]; (first | exact ⟨rfl, rfl⟩ | exact ⟨rfl, trivial⟩ | exact ⟨trivial, rfl⟩ | exact ⟨trivial, trivial⟩ | trivial)) (fun hc => ?_) fun hc => ?_
  · have hc : k = 1 := by have := of_decide_eq_true hc; omega
    subst hc
    rw [w_cons, w_raisC]
    simp only [sat_ok, e_int, e_str, e_non, e_bl, e_gc, e_var, e_bin, e_neg, e_cmp, e_chain, e_and, e_or, e_not, e_ife, e_tup, e_idx, e_cutS, e_fz, frz_v, frz_l, e_peek, e_bi, e_isi, e_dft, e_new, e_join, e_dct0, e_dct1, bi_tupL, bi_tupT, es_nil, es_cons, t_and, t_or, t_not, t_cmp, t_chain, t_val, t_yes, ta_1, ta_s, to_1, to_s, ea_1, ea_s, eo_1, eo_s, p_none, p_some, intP_int, f_lst, f_cutL, f_rev, f_cat, f_listOf, f_call, f_repE, f_lrange, i_zip, f_sorted, f_sortSet, f_sortK, c_ltT, e_newI, e_peekI, e_isiC, e_lenSet, f_meth, i_seq, i_r1, i_r2, i_r3, slot_0, slot_s, slotO_0, slotO_s, slotA_0, slotA_s, b_add, b_sub, b_mul, b_fdiv, b_mod, b_pow, c_lt, c_le, c_gt, c_ge, c_eq, c_ne, x_lst, x_tup, len_lst, len_tup, bi_abs, bi_max2, bi_min2, bi_min3, bi_max3, is_int, is_lst, tr_bl, tr_int, tr_lst, ne_int, it_lst, it_tup, om_app, dr_lst, sd_lst, sd_tup, lstD_lst, tupD_tup, lO_l, lft_some, lft_map, lft_bind, au_add, au_sub, List.set_cons_zero, List.set_cons_succ, decide_eq_true_eq, Bool.not_eq_true', Bool.false_eq_true, Bool.true_eq_false, if_true, if_false, List.map_cons, List.map_nil, p10_6, p10_9, p10_11, p10_12, p10_18]
    exact h
  (rw [w_nil]; dsimp only; rw [w_cons])
  refine w_ifB (decide ((k : Int) = 2)) (by simp only [sat_ok, e_int, e_str, e_non, e_bl, e_gc, e_var, e_bin, e_neg, e_cmp, e_chain, e_and, e_or, e_not, e_ife, e_tup, e_idx, e_cutS, e_fz, frz_v, frz_l, e_peek, e_bi, e_isi, e_dft, e_new, e_join, e_dct0, e_dct1, bi_tupL, bi_tupT, es_nil, es_cons, t_and, t_or, t_not, t_cmp, t_chain, t_val, t_yes, ta_1, ta_s, to_1, to_s, ea_1, ea_s, eo_1, eo_s, p_none, p_some, intP_int, f_lst, f_cutL, f_rev, f_cat, f_listOf, f_call, f_repE, f_lrange, i_zip, f_sorted, f_sortSet, f_sortK, c_ltT, e_newI, e_peekI, e_isiC, e_lenSet, f_meth, i_seq, i_r1, i_r2, i_r3, slot_0, slot_s, slotO_0, slotO_s, slotA_0, slotA_s, b_add, b_sub, b_mul, b_fdiv, b_mod, b_pow, c_lt, c_le, c_gt, c_ge, c_eq, c_ne, x_lst, x_tup, len_lst, len_tup, bi_abs, bi_max2, bi_min2, bi_min3, bi_max3, is_int, is_lst, tr_bl, tr_int, tr_lst, ne_int, it_lst, it_tup, om_app, dr_lst, sd_lst, sd_tup, lstD_lst, tupD_tup, lO_l, lft_some, lft_map, lft_bind, au_add, au_sub, List.set_cons_zero, List.set_cons_succ, decide_eq_true_eq, Bool.not_eq_true', Bool.false_eq_true, Bool.true_eq_false, if_true, if_false, List.map_cons, List.map_nil, p10_6, p10_9, p10_11, p10_12, p10_18]; (first | exact ⟨rfl, rfl⟩ | exact ⟨rfl, trivial⟩ | exact ⟨trivial, rfl⟩ | exact ⟨trivial, trivial⟩ | trivial)) (fun hc => ?_) fun hc => ?_
  · have hc : k = 2 := by have := of_decide_eq_true hc; omega
    subst hc
    rw [w_cons, w_raisC]
    simp only [sat_ok, e_int, e_str, e_non, e_bl, e_gc, e_var, e_bin, e_neg, e_cmp, e_chain, e_and, e_or, e_not, e_ife, e_tup, e_idx, e_cutS, e_fz, frz_v, frz_l, e_peek, e_bi, e_isi, e_dft, e_new, e_join, e_dct0, e_dct1, bi_tupL, bi_tupT, es_nil, es_cons, t_and, t_or, t_not, t_cmp, t_chain, t_val, t_yes, ta_1, ta_s, to_1, to_s, ea_1, ea_s, eo_1, eo_s, p_none, p_some, intP_int, f_lst, f_cutL, f_rev, f_cat, f_listOf, f_call, f_repE, f_lrange, i_zip, f_sorted, f_sortSet, f_sortK, c_ltT, e_newI, e_peekI, e_isiC, e_lenSet, f_meth, i_seq, i_r1, i_r2, i_r3, slot_0, slot_s, slotO_0, slotO_s, slotA_0, slotA_s, b_add, b_sub, b_mul, b_fdiv, b_mod, b_pow, c_lt, c_le, c_gt, c_ge, c_eq, c_ne, x_lst, x_tup, len_lst, len_tup, bi_abs, bi_max2, bi_min2, bi_min3, bi_max3, is_int, is_lst, tr_bl, tr_int, tr_lst, ne_int, it_lst, it_tup, om_app, dr_lst, sd_lst, sd_tup, lstD_lst, tupD_tup, lO_l, lft_some, lft_map, lft_bind, au_add, au_sub, List.set_cons_zero, List.set_cons_succ, decide_eq_true_eq, Bool.not_eq_true', Bool.false_eq_true, Bool.true_eq_false, if_true, if_false, List.map_cons, List.map_nil, p10_6, p10_9, p10_11, p10_12, p10_18]
    exact h
  (rw [w_nil]; dsimp only; rw [w_cons])
  refine w_ifB (decide ((k : Int) = 3)) (by simp only [sat_ok, e_int, e_str, e_non, e_bl, e_gc, e_var, e_bin, e_neg, e_cmp, e_chain, e_and, e_or, e_not, e_ife, e_tup, e_idx, e_cutS, e_fz, frz_v, frz_l, e_peek, e_bi, e_isi, e_dft, e_new, e_join, e_dct0, e_dct1, bi_tupL, bi_tupT, es_nil, es_cons, t_and, t_or, t_not, t_cmp, t_chain, t_val, t_yes, ta_1, ta_s, to_1, to_s, ea_1, ea_s, eo_1, eo_s, p_none, p_some, intP_int, f_lst, f_cutL, f_rev, f_cat, f_listOf, f_call, f_repE, f_lrange, i_zip, f_sorted, f_sortSet, f_sortK, c_ltT, e_newI, e_peekI, e_isiC, e_lenSet, f_meth, i_seq, i_r1, i_r2, i_r3, slot_0, slot_s, slotO_0, slotO_s, slotA_0, slotA_s, b_add, b_sub, b_mul, b_fdiv, b_mod, b_pow, c_lt, c_le, c_gt, c_ge, c_eq, c_ne, x_lst, x_tup, len_lst, len_tup, bi_abs, bi_max2, bi_min2, bi_min3, bi_max3, is_int, is_lst, tr_bl, tr_int, tr_lst, ne_int, it_lst, it_tup, om_app, dr_lst, sd_lst, sd_tup, lstD_lst, tupD_tup, lO_l, lft_some, lft_map, lft_bind, au_add, au_sub, List.set_cons_zero, List.set_cons_succ, decide_eq_true_eq, Bool.not_eq_true', Bool.false_eq_true, Bool.true_eq_false, if_true, if_false, List.map_cons, List.map_nil, p10_6, p10_9, p10_11, p10_12, p10_18]; (first | exact ⟨rfl, rfl⟩ | exact ⟨rfl, trivial⟩ | exact ⟨trivial, rfl⟩ | exact ⟨trivial, trivial⟩ | trivial)) (fun hc => ?_) fun hc => ?_
  · have hc : k = 3 := by have := of_decide_eq_true hc; omega
    subst hc
    rw [w_cons, w_raisC]
    simp only [sat_ok, e_int, e_str, e_non, e_bl, e_gc, e_var, e_bin, e_neg, e_cmp, e_chain, e_and, e_or, e_not, e_ife, e_tup, e_idx, e_cutS, e_fz, frz_v, frz_l, e_peek, e_bi, e_isi, e_dft, e_new, e_join, e_dct0, e_dct1, bi_tupL, bi_tupT, es_nil, es_cons, t_and, t_or, t_not, t_cmp, t_chain, t_val, t_yes, ta_1, ta_s, to_1, to_s, ea_1, ea_s, eo_1, eo_s, p_none, p_some, intP_int, f_lst, f_cutL, f_rev, f_cat, f_listOf, f_call, f_repE, f_lrange, i_zip, f_sorted, f_sortSet, f_sortK, c_ltT, e_newI, e_peekI, e_isiC, e_lenSet, f_meth, i_seq, i_r1, i_r2, i_r3, slot_0, slot_s, slotO_0, slotO_s, slotA_0, slotA_s, b_add, b_sub, b_mul, b_fdiv, b_mod, b_pow, c_lt, c_le, c_gt, c_ge, c_eq, c_ne, x_lst, x_tup, len_lst, len_tup, bi_abs, bi_max2, bi_min2, bi_min3, bi_max3, is_int, is_lst, tr_bl, tr_int, tr_lst, ne_int, it_lst, it_tup, om_app, dr_lst, sd_lst, sd_tup, lstD_lst, tupD_tup, lO_l, lft_some, lft_map, lft_bind, au_add, au_sub, List.set_cons_zero, List.set_cons_succ, decide_eq_true_eq, Bool.not_eq_true', Bool.false_eq_true, Bool.true_eq_false, if_true, if_false, List.map_cons, List.map_nil, p10_6, p10_9, p10_11, p10_12, p10_18]
    exact h
  (rw [w_nil]; dsimp only; rw [w_cons])
  refine w_ifB (decide ((k : Int) = 4)) (by simp only [sat_ok, e_int, e_str, e_non, e_bl, e_gc, e_var, e_bin, e_neg, e_cmp, e_chain, e_and, e_or, e_not, e_ife, e_tup, e_idx, e_cutS, e_fz, frz_v, frz_l, e_peek, e_bi, e_isi, e_dft, e_new, e_join, e_dct0, e_dct1, bi_tupL, bi_tupT, es_nil, es_cons, t_and, t_or, t_not, t_cmp, t_chain, t_val, t_yes, ta_1, ta_s, to_1, to_s, ea_1, ea_s, eo_1, eo_s, p_none, p_some, intP_int, f_lst, f_cutL, f_rev, f_cat, f_listOf, f_call, f_repE, f_lrange, i_zip, f_sorted, f_sortSet, f_sortK, c_ltT, e_newI, e_peekI, e_isiC, e_lenSet, f_meth, i_seq, i_r1, i_r2, i_r3, slot_0, slot_s, slotO_0, slotO_s, slotA_0, slotA_s, b_add, b_sub, b_mul, b_fdiv, b_mod, b_pow, c_lt, c_le, c_gt, c_ge, c_eq, c_ne, x_lst, x_tup, len_lst, len_tup, bi_abs, bi_max2, bi_min2, bi_min3, bi_max3, is_int, is_lst, tr_bl, tr_int, tr_lst, ne_int, it_lst, it_tup, om_app, dr_lst, sd_lst, sd_tup, lstD_lst, tupD_tup, lO_l, lft_some, lft_map, lft_bind, au_add, au_sub, List.set_cons_zero, List.set_cons_succ, decide_eq_true_eq, Bool.not_eq_true', Bool.false_eq_true, Bool.true_eq_false, if_true, if_false, List.map_cons, List.map_nil, p10_6, p10_9, p10_11, p10_12, p10_18]; (first | exact ⟨rfl, rfl⟩ | exact ⟨rfl, trivial⟩ | exact ⟨trivial, rfl⟩ | exact ⟨trivial, trivial⟩ | trivial)) (fun hc => ?_) fun hc => ?_
  · have hc : k = 4 := by have := of_decide_eq_true hc; omega
    subst hc
    rw [w_cons, w_raisC]
    simp only [sat_ok, e_int, e_str, e_non, e_bl, e_gc, e_var, e_bin, e_neg, e_cmp, e_chain, e_and, e_or, e_not, e_ife, e_tup, e_idx, e_cutS, e_fz, frz_v, frz_l, e_peek, e_bi, e_isi, e_dft, e_new, e_join, e_dct0, e_dct1, bi_tupL, bi_tupT, es_nil, es_cons, t_and, t_or, t_not, t_cmp, t_chain, t_val, t_yes, ta_1, ta_s, to_1, to_s, ea_1, ea_s, eo_1, eo_s, p_none, p_some, intP_int, f_lst, f_cutL, f_rev, f_cat, f_listOf, f_call, f_repE, f_lrange, i_zip, f_sorted, f_sortSet, f_sortK, c_ltT, e_newI, e_peekI, e_isiC, e_lenSet, f_meth, i_seq, i_r1, i_r2, i_r3, slot_0, slot_s, slotO_0, slotO_s, slotA_0, slotA_s, b_add, b_sub, b_mul, b_fdiv, b_mod, b_pow, c_lt, c_le, c_gt, c_ge, c_eq, c_ne, x_lst, x_tup, len_lst, len_tup, bi_abs, bi_max2, bi_min2, bi_min3, bi_max3, is_int, is_lst, tr_bl, tr_int, tr_lst, ne_int, it_lst, it_tup, om_app, dr_lst, sd_lst, sd_tup, lstD_lst, tupD_tup, lO_l, lft_some, lft_map, lft_bind, au_add, au_sub, List.set_cons_zero, List.set_cons_succ, decide_eq_true_eq, Bool.not_eq_true', Bool.false_eq_true, Bool.true_eq_false, if_true, if_false, List.map_cons, List.map_nil, p10_6, p10_9, p10_11, p10_12, p10_18]
    exact h
  (rw [w_nil]; dsimp only; rw [w_cons])
  refine w_ifB (decide ((k : Int) = 5)) (by simp only [sat_ok, e_int, e_str, e_non, e_bl, e_gc, e_var, e_bin, e_neg, e_cmp, e_chain, e_and, e_or, e_not, e_ife, e_tup, e_idx, e_cutS, e_fz, frz_v, frz_l, e_peek, e_bi, e_isi, e_dft, e_new, e_join, e_dct0, e_dct1, bi_tupL, bi_tupT, es_nil, es_cons, t_and, t_or, t_not, t_cmp, t_chain, t_val, t_yes, ta_1, ta_s, to_1, to_s, ea_1, ea_s, eo_1, eo_s, p_none, p_some, intP_int, f_lst, f_cutL, f_rev, f_cat, f_listOf, f_call, f_repE, f_lrange, i_zip, f_sorted, f_sortSet, f_sortK, c_ltT, e_newI, e_peekI, e_isiC, e_lenSet, f_meth, i_seq, i_r1, i_r2, i_r3, slot_0, slot_s, slotO_0, slotO_s, slotA_0, slotA_s, b_add, b_sub, b_mul, b_fdiv, b_mod, b_pow, c_lt, c_le, c_gt, c_ge, c_eq, c_ne, x_lst, x_tup, len_lst, len_tup, bi_abs, bi_max2, bi_min2, bi_min3, bi_max3, is_int, is_lst, tr_bl, tr_int, tr_lst, ne_int, it_lst, it_tup, om_app, dr_lst, sd_lst, sd_tup, lstD_lst, tupD_tup, lO_l, lft_some, lft_map, lft_bind, au_add, au_sub, List.set_cons_zero, List.set_cons_succ, decide_eq_true_eq, Bool.not_eq_true', Bool.false_eq_true, Bool.true_eq_false, if_true, if_false, List.map_cons, List.map_nil, p10_6, p10_9, p10_11, p10_12, p10_18]; (first | exact ⟨rfl, rfl⟩ | exact ⟨rfl, trivial⟩ | exact ⟨trivial, rfl⟩ | exact ⟨trivial, trivial⟩ | trivial)) (fun hc => ?_) fun hc => ?_
  · have hc : k = 5 := by have := of_decide_eq_true hc; omega
    subst hc
    rw [w_cons, w_raisC]
    simp only [sat_ok, e_int, e_str, e_non, e_bl, e_gc, e_var, e_bin, e_neg, e_cmp, e_chain, e_and, e_or, e_not, e_ife, e_tup, e_idx, e_cutS, e_fz, frz_v, frz_l, e_peek, e_bi, e_isi, e_dft, e_new, e_join, e_dct0, e_dct1, bi_tupL, bi_tupT, es_nil, es_cons, t_and, t_or, t_not, t_cmp, t_chain, t_val, t_yes, ta_1, ta_s, to_1, to_s, ea_1, ea_s, eo_1, eo_s, p_none, p_some, intP_int, f_lst, f_cutL, f_rev, f_cat, f_listOf, f_call, f_repE, f_lrange, i_zip, f_sorted, f_sortSet, f_sortK, c_ltT, e_newI, e_peekI, e_isiC, e_lenSet, f_meth, i_seq, i_r1, i_r2, i_r3, slot_0, slot_s, slotO_0, slotO_s, slotA_0, slotA_s, b_add, b_sub, b_mul, b_fdiv, b_mod, b_pow, c_lt, c_le, c_gt, c_ge, c_eq, c_ne, x_lst, x_tup, len_lst, len_tup, bi_abs, bi_max2, bi_min2, bi_min3, bi_max3, is_int, is_lst, tr_bl, tr_int, tr_lst, ne_int, it_lst, it_tup, om_app, dr_lst, sd_lst, sd_tup, lstD_lst, tupD_tup, lO_l, lft_some, lft_map, lft_bind, au_add, au_sub, List.set_cons_zero, List.set_cons_succ, decide_eq_true_eq, Bool.not_eq_true', Bool.false_eq_true, Bool.true_eq_false, if_true, if_false, List.map_cons, List.map_nil, p10_6, p10_9, p10_11, p10_12, p10_18]
    exact h
  (rw [w_nil]; dsimp only; rw [w_cons])
  refine w_ifB (decide ((k : Int) = 6)) (by simp only [sat_ok, e_int, e_str, e_non, e_bl, e_gc, e_var, e_bin, e_neg, e_cmp, e_chain, e_and, e_or, e_not, e_ife, e_tup, e_idx, e_cutS, e_fz, frz_v, frz_l, e_peek, e_bi, e_isi, e_dft, e_new, e_join, e_dct0, e_dct1, bi_tupL, bi_tupT, es_nil, es_cons, t_and, t_or, t_not, t_cmp, t_chain, t_val, t_yes, ta_1, ta_s, to_1, to_s, ea_1, ea_s, eo_1, eo_s, p_none, p_some, intP_int, f_lst, f_cutL, f_rev, f_cat, f_listOf, f_call, f_repE, f_lrange, i_zip, f_sorted, f_sortSet, f_sortK, c_ltT, e_newI, e_peekI, e_isiC, e_lenSet, f_meth, i_seq, i_r1, i_r2, i_r3, slot_0, slot_s, slotO_0, slotO_s, slotA_0, slotA_s, b_add, b_sub, b_mul, b_fdiv, b_mod, b_pow, c_lt, c_le, c_gt, c_ge, c_eq, c_ne, x_lst, x_tup, len_lst, len_tup, bi_abs, bi_max2, bi_min2, bi_min3, bi_max3, is_int, is_lst, tr_bl, tr_int, tr_lst, ne_int, it_lst, it_tup, om_app, dr_lst, sd_lst, sd_tup, lstD_lst, tupD_tup, lO_l, lft_some, lft_map, lft_bind, au_add, au_sub, List.set_cons_zero, List.set_cons_succ, decide_eq_true_eq, Bool.not_eq_true', Bool.false_eq_true, Bool.true_eq_false, if_true, if_false, List.map_cons, List.map_nil, p10_6, p10_9, p10_11, p10_12, p10_18]; (first | exact ⟨rfl, rfl⟩ | exact ⟨rfl, trivial⟩ | exact ⟨trivial, rfl⟩ | exact ⟨trivial, trivial⟩ | trivial)) (fun hc => ?_) fun hc => ?_
  · have hc : k = 6 := by have := of_decide_eq_true hc; omega
    subst hc
    rw [w_cons, w_raisC]
    simp only [sat_ok, e_int, e_str, e_non, e_bl, e_gc, e_var, e_bin, e_neg, e_cmp, e_chain, e_and, e_or, e_not, e_ife, e_tup, e_idx, e_cutS, e_fz, frz_v, frz_l, e_peek, e_bi, e_isi, e_dft, e_new, e_join, e_dct0, e_dct1, bi_tupL, bi_tupT, es_nil, es_cons, t_and, t_or, t_not, t_cmp, t_chain, t_val, t_yes, ta_1, ta_s, to_1, to_s, ea_1, ea_s, eo_1, eo_s, p_none, p_some, intP_int, f_lst, f_cutL, f_rev, f_cat, f_listOf, f_call, f_repE, f_lrange, i_zip, f_sorted, f_sortSet, f_sortK, c_ltT, e_newI, e_peekI, e_isiC, e_lenSet, f_meth, i_seq, i_r1, i_r2, i_r3, slot_0, slot_s, slotO_0, slotO_s, slotA_0, slotA_s, b_add, b_sub, b_mul, b_fdiv, b_mod, b_pow, c_lt, c_le, c_gt, c_ge, c_eq, c_ne, x_lst, x_tup, len_lst, len_tup, bi_abs, bi_max2, bi_min2, bi_min3, bi_max3, is_int, is_lst, tr_bl, tr_int, tr_lst, ne_int, it_lst, it_tup, om_app, dr_lst, sd_lst, sd_tup, lstD_lst, tupD_tup, lO_l, lft_some, lft_map, lft_bind, au_add, au_sub, List.set_cons_zero, List.set_cons_succ, decide_eq_true_eq, Bool.not_eq_true', Bool.false_eq_true, Bool.true_eq_false, if_true, if_false, List.map_cons, List.map_nil, p10_6, p10_9, p10_11, p10_12, p10_18]
    exact h
  (rw [w_nil]; dsimp only; rw [w_cons])
  refine w_ifB (decide ((k : Int) = 7)) (by simp only [sat_ok, e_int, e_str, e_non, e_bl, e_gc, e_var, e_bin, e_neg, e_cmp, e_chain, e_and, e_or, e_not, e_ife, e_tup, e_idx, e_cutS, e_fz, frz_v, frz_l, e_peek, e_bi, e_isi, e_dft, e_new, e_join, e_dct0, e_dct1, bi_tupL, bi_tupT, es_nil, es_cons, t_and, t_or, t_not, t_cmp, t_chain, t_val, t_yes, ta_1, ta_s, to_1, to_s, ea_1, ea_s, eo_1, eo_s, p_none, p_some, intP_int, f_lst, f_cutL, f_rev, f_cat, f_listOf, f_call, f_repE, f_lrange, i_zip, f_sorted, f_sortSet, f_sortK, c_ltT, e_newI, e_peekI, e_isiC, e_lenSet, f_meth, i_seq, i_r1, i_r2, i_r3, slot_0, slot_s, slotO_0, slotO_s, slotA_0, slotA_s, b_add, b_sub, b_mul, b_fdiv, b_mod, b_pow, c_lt, c_le, c_gt, c_ge, c_eq, c_ne, x_lst, x_tup, len_lst, len_tup, bi_abs, bi_max2, bi_min2, bi_min3, bi_max3, is_int, is_lst, tr_bl, tr_int, tr_lst, ne_int, it_lst, it_tup, om_app, dr_lst, sd_lst, sd_tup, lstD_lst, tupD_tup, lO_l, lft_some, lft_map, lft_bind, au_add, au_sub, List.set_cons_zero, List.set_cons_succ, decide_eq_true_eq, Bool.not_eq_true', Bool.false_eq_true, Bool.true_eq_false, if_true, if_false, List.map_cons, List.map_nil, p10_6, p10_9, p10_11, p10_12, p10_18]; (first | exact ⟨rfl, rfl⟩ | exact ⟨rfl, trivial⟩ | exact ⟨trivial, rfl⟩ | exact ⟨trivial, trivial⟩ | trivial)) (fun hc => ?_) fun hc => ?_
  · have hc : k = 7 := by have := of_decide_eq_true hc; omega
    subst hc
    rw [w_cons, w_raisC]
    simp only [sat_ok, e_int, e_str, e_non, e_bl, e_gc, e_var, e_bin, e_neg, e_cmp, e_chain, e_and, e_or, e_not, e_ife, e_tup, e_idx, e_cutS, e_fz, frz_v, frz_l, e_peek, e_bi, e_isi, e_dft, e_new, e_join, e_dct0, e_dct1, bi_tupL, bi_tupT, es_nil, es_cons, t_and, t_or, t_not, t_cmp, t_chain, t_val, t_yes, ta_1, ta_s, to_1, to_s, ea_1, ea_s, eo_1, eo_s, p_none, p_some, intP_int, f_lst, f_cutL, f_rev, f_cat, f_listOf, f_call, f_repE, f_lrange, i_zip, f_sorted, f_sortSet, f_sortK, c_ltT, e_newI, e_peekI, e_isiC, e_lenSet, f_meth, i_seq, i_r1, i_r2, i_r3, slot_0, slot_s, slotO_0, slotO_s, slotA_0, slotA_s, b_add, b_sub, b_mul, b_fdiv, b_mod, b_pow, c_lt, c_le, c_gt, c_ge, c_eq, c_ne, x_lst, x_tup, len_lst, len_tup, bi_abs, bi_max2, bi_min2, bi_min3, bi_max3, is_int, is_lst, tr_bl, tr_int, tr_lst, ne_int, it_lst, it_tup, om_app, dr_lst, sd_lst, sd_tup, lstD_lst, tupD_tup, lO_l, lft_some, lft_map, lft_bind, au_add, au_sub, List.set_cons_zero, List.set_cons_succ, decide_eq_true_eq, Bool.not_eq_true', Bool.false_eq_true, Bool.true_eq_false, if_true, if_false, List.map_cons, List.map_nil, p10_6, p10_9, p10_11, p10_12, p10_18]
    exact h
  (rw [w_nil]; dsimp only; rw [w_cons])
  refine w_ifB (decide ((k : Int) = 8)) (by simp only [sat_ok, e_int, e_str, e_non, e_bl, e_gc, e_var, e_bin, e_neg, e_cmp, e_chain, e_and, e_or, e_not, e_ife, e_tup, e_idx, e_cutS, e_fz, frz_v, frz_l, e_peek, e_bi, e_isi, e_dft, e_new, e_join, e_dct0, e_dct1, bi_tupL, bi_tupT, es_nil, es_cons, t_and, t_or, t_not, t_cmp, t_chain, t_val, t_yes, ta_1, ta_s, to_1, to_s, ea_1, ea_s, eo_1, eo_s, p_none, p_some, intP_int, f_lst, f_cutL, f_rev, f_cat, f_listOf, f_call, f_repE, f_lrange, i_zip, f_sorted, f_sortSet, f_sortK, c_ltT, e_newI, e_peekI, e_isiC, e_lenSet, f_meth, i_seq, i_r1, i_r2, i_r3, slot_0, slot_s, slotO_0, slotO_s, slotA_0, slotA_s, b_add, b_sub, b_mul, b_fdiv, b_mod, b_pow, c_lt, c_le, c_gt, c_ge, c_eq, c_ne, x_lst, x_tup, len_lst, len_tup, bi_abs, bi_max2, bi_min2, bi_min3, bi_max3, is_int, is_lst, tr_bl, tr_int, tr_lst, ne_int, it_lst, it_tup, om_app, dr_lst, sd_lst, sd_tup, lstD_lst, tupD_tup, lO_l, lft_some, lft_map, lft_bind, au_add, au_sub, List.set_cons_zero, List.set_cons_succ, decide_eq_true_eq, Bool.not_eq_true', Bool.false_eq_true, Bool.true_eq_false, if_true, if_false, List.map_cons, List.map_nil, p10_6, p10_9, p10_11, p10_12, p10_18]; (first | exact ⟨rfl, rfl⟩ | exact ⟨rfl, trivial⟩ | exact ⟨trivial, rfl⟩ | exact ⟨trivial, trivial⟩ | trivial)) (fun hc => ?_) fun hc => ?_
  · have hc : k = 8 := by have := of_decide_eq_true hc; omega
    subst hc
    rw [w_cons, w_raisC]
    simp only [sat_ok, e_int, e_str, e_non, e_bl, e_gc, e_var, e_bin, e_neg, e_cmp, e_chain, e_and, e_or, e_not, e_ife, e_tup, e_idx, e_cutS, e_fz, frz_v, frz_l, e_peek, e_bi, e_isi, e_dft, e_new, e_join, e_dct0, e_dct1, bi_tupL, bi_tupT, es_nil, es_cons, t_and, t_or, t_not, t_cmp, t_chain, t_val, t_yes, ta_1, ta_s, to_1, to_s, ea_1, ea_s, eo_1, eo_s, p_none, p_some, intP_int, f_lst, f_cutL, f_rev, f_cat, f_listOf, f_call, f_repE, f_lrange, i_zip, f_sorted, f_sortSet, f_sortK, c_ltT, e_newI, e_peekI, e_isiC, e_lenSet, f_meth, i_seq, i_r1, i_r2, i_r3, slot_0, slot_s, slotO_0, slotO_s, slotA_0, slotA_s, b_add, b_sub, b_mul, b_fdiv, b_mod, b_pow, c_lt, c_le, c_gt, c_ge, c_eq, c_ne, x_lst, x_tup, len_lst, len_tup, bi_abs, bi_max2, bi_min2, bi_min3, bi_max3, is_int, is_lst, tr_bl, tr_int, tr_lst, ne_int, it_lst, it_tup, om_app, dr_lst, sd_lst, sd_tup, lstD_lst, tupD_tup, lO_l, lft_some, lft_map, lft_bind, au_add, au_sub, List.set_cons_zero, List.set_cons_succ, decide_eq_true_eq, Bool.not_eq_true', Bool.false_eq_true, Bool.true_eq_false, if_true, if_false, List.map_cons, List.map_nil, p10_6, p10_9, p10_11, p10_12, p10_18]
    exact h
  (rw [w_nil]; dsimp only; rw [w_cons])
  refine w_ifB (decide ((k : Int) = 9)) (by simp only [sat_ok, e_int, e_str, e_non, e_bl, e_gc, e_var, e_bin, e_neg, e_cmp, e_chain, e_and, e_or, e_not, e_ife, e_tup, e_idx, e_cutS, e_fz, frz_v, frz_l, e_peek, e_bi, e_isi, e_dft, e_new, e_join, e_dct0, e_dct1, bi_tupL, bi_tupT, es_nil, es_cons, t_and, t_or, t_not, t_cmp, t_chain, t_val, t_yes, ta_1, ta_s, to_1, to_s, ea_1, ea_s, eo_1, eo_s, p_none, p_some, intP_int, f_lst, f_cutL, f_rev, f_cat, f_listOf, f_call, f_repE, f_lrange, i_zip, f_sorted, f_sortSet, f_sortK, c_ltT, e_newI, e_peekI, e_isiC, e_lenSet, f_meth, i_seq, i_r1, i_r2, i_r3, slot_0, slot_s, slotO_0, slotO_s, slotA_0, slotA_s, b_add, b_sub, b_mul, b_fdiv, b_mod, b_pow, c_lt, c_le, c_gt, c_ge, c_eq, c_ne, x_lst, x_tup, len_lst, len_tup, bi_abs, bi_max2, bi_min2, bi_min3, bi_max3, is_int, is_lst, tr_bl, tr_int, tr_lst, ne_int, it_lst, it_tup, om_app, dr_lst, sd_lst, sd_tup, lstD_lst, tupD_tup, lO_l, lft_some, lft_map, lft_bind, au_add, au_sub, List.set_cons_zero, List.set_cons_succ, decide_eq_true_eq, Bool.not_eq_true', Bool.false_eq_true, Bool.true_eq_false, if_true, if_false, List.map_cons, List.map_nil, p10_6, p10_9, p10_11, p10_12, p10_18]; (first | exact ⟨rfl, rfl⟩ | exact ⟨rfl, trivial⟩ | exact ⟨trivial, rfl⟩ | exact ⟨trivial, trivial⟩ | trivial)) (fun hc => ?_) fun hc => ?_
  · have hc : k = 9 := by have := of_decide_eq_true hc; omega
    subst hc
    rw [w_cons, w_raisC]
    simp only [sat_ok, e_int, e_str, e_non, e_bl, e_gc, e_var, e_bin, e_neg, e_cmp, e_chain, e_and, e_or, e_not, e_ife, e_tup, e_idx, e_cutS, e_fz, frz_v, frz_l, e_peek, e_bi, e_isi, e_dft, e_new, e_join, e_dct0, e_dct1, bi_tupL, bi_tupT, es_nil, es_cons, t_and, t_or, t_not, t_cmp, t_chain, t_val, t_yes, ta_1, ta_s, to_1, to_s, ea_1, ea_s, eo_1, eo_s, p_none, p_some, intP_int, f_lst, f_cutL, f_rev, f_cat, f_listOf, f_call, f_repE, f_lrange, i_zip, f_sorted, f_sortSet, f_sortK, c_ltT, e_newI, e_peekI, e_isiC, e_lenSet, f_meth, i_seq, i_r1, i_r2, i_r3, slot_0, slot_s, slotO_0, slotO_s, slotA_0, slotA_s, b_add, b_sub, b_mul, b_fdiv, b_mod, b_pow, c_lt, c_le, c_gt, c_ge, c_eq, c_ne, x_lst, x_tup, len_lst, len_tup, bi_abs, bi_max2, bi_min2, bi_min3, bi_max3, is_int, is_lst, tr_bl, tr_int, tr_lst, ne_int, it_lst, it_tup, om_app, dr_lst, sd_lst, sd_tup, lstD_lst, tupD_tup, lO_l, lft_some, lft_map, lft_bind, au_add, au_sub, List.set_cons_zero, List.set_cons_succ, decide_eq_true_eq, Bool.not_eq_true', Bool.false_eq_true, Bool.true_eq_false, if_true, if_false, List.map_cons, List.map_nil, p10_6, p10_9, p10_11, p10_12, p10_18]
    exact h
  (rw [w_nil]; dsimp only; rw [w_cons])
  refine w_ifB (decide ((k : Int) = 10)) (by simp only [sat_ok, e_int, e_str, e_non, e_bl, e_gc, e_var, e_bin, e_neg, e_cmp, e_chain, e_and, e_or, e_not, e_ife, e_tup, e_idx, e_cutS, e_fz, frz_v, frz_l, e_peek, e_bi, e_isi, e_dft, e_new, e_join, e_dct0, e_dct1, bi_tupL, bi_tupT, es_nil, es_cons, t_and, t_or, t_not, t_cmp, t_chain, t_val, t_yes, ta_1, ta_s, to_1, to_s, ea_1, ea_s, eo_1, eo_s, p_none, p_some, intP_int, f_lst, f_cutL, f_rev, f_cat, f_listOf, f_call, f_repE, f_lrange, i_zip, f_sorted, f_sortSet, f_sortK, c_ltT, e_newI, e_peekI, e_isiC, e_lenSet, f_meth, i_seq, i_r1, i_r2, i_r3, slot_0, slot_s, slotO_0, slotO_s, slotA_0, slotA_s, b_add, b_sub, b_mul, b_fdiv, b_mod, b_pow, c_lt, c_le, c_gt, c_ge, c_eq, c_ne, x_lst, x_tup, len_lst, len_tup, bi_abs, bi_max2, bi_min2, bi_min3, bi_max3, is_int, is_lst, tr_bl, tr_int, tr_lst, ne_int, it_lst, it_tup, om_app, dr_lst, sd_lst, sd_tup, lstD_lst, tupD_tup, lO_l, lft_some, lft_map, lft_bind, au_add, au_sub, List.set_cons_zero, List.set_cons_succ, decide_eq_true_eq, Bool.not_eq_true', Bool.false_eq_true, Bool.true_eq_false, if_true, if_false, List.map_cons, List.map_nil, p10_6, p10_9, p10_11, p10_12, p10_18]; (first | exact ⟨rfl, rfl⟩ | exact ⟨rfl, trivial⟩ | exact ⟨trivial, rfl⟩ | exact ⟨trivial, trivial⟩ | trivial)) (fun hc => ?_) fun hc => ?_
  · have hc : k = 10 := by have := of_decide_eq_true hc; omega
    subst hc
    rw [w_cons, w_raisC]
    simp only [sat_ok, e_int, e_str, e_non, e_bl, e_gc, e_var, e_bin, e_neg, e_cmp, e_chain, e_and, e_or, e_not, e_ife, e_tup, e_idx, e_cutS, e_fz, frz_v, frz_l, e_peek, e_bi, e_isi, e_dft, e_new, e_join, e_dct0, e_dct1, bi_tupL, bi_tupT, es_nil, es_cons, t_and, t_or, t_not, t_cmp, t_chain, t_val, t_yes, ta_1, ta_s, to_1, to_s, ea_1, ea_s, eo_1, eo_s, p_none, p_some, intP_int, f_lst, f_cutL, f_rev, f_cat, f_listOf, f_call, f_repE, f_lrange, i_zip, f_sorted, f_sortSet, f_sortK, c_ltT, e_newI, e_peekI, e_isiC, e_lenSet, f_meth, i_seq, i_r1, i_r2, i_r3, slot_0, slot_s, slotO_0, slotO_s, slotA_0, slotA_s, b_add, b_sub, b_mul, b_fdiv, b_mod, b_pow, c_lt, c_le, c_gt, c_ge, c_eq, c_ne, x_lst, x_tup, len_lst, len_tup, bi_abs, bi_max2, bi_min2, bi_min3, bi_max3, is_int, is_lst, tr_bl, tr_int, tr_lst, ne_int, it_lst, it_tup, om_app, dr_lst, sd_lst, sd_tup, lstD_lst, tupD_tup, lO_l, lft_some, lft_map, lft_bind, au_add, au_sub, List.set_cons_zero, List.set_cons_succ, decide_eq_true_eq, Bool.not_eq_true', Bool.false_eq_true, Bool.true_eq_false, if_true, if_false, List.map_cons, List.map_nil, p10_6, p10_9, p10_11, p10_12, p10_18]
    exact h
  (rw [w_nil]; dsimp only; rw [w_cons])
  refine w_ifB (decide ((k : Int) = 11)) (by simp only [sat_ok, e_int, e_str, e_non, e_bl, e_gc, e_var, e_bin, e_neg, e_cmp, e_chain, e_and, e_or, e_not, e_ife, e_tup, e_idx, e_cutS, e_fz, frz_v, frz_l, e_peek, e_bi, e_isi, e_dft, e_new, e_join, e_dct0, e_dct1, bi_tupL, bi_tupT, es_nil, es_cons, t_and, t_or, t_not, t_cmp, t_chain, t_val, t_yes, ta_1, ta_s, to_1, to_s, ea_1, ea_s, eo_1, eo_s, p_none, p_some, intP_int, f_lst, f_cutL, f_rev, f_cat, f_listOf, f_call, f_repE, f_lrange, i_zip, f_sorted, f_sortSet, f_sortK, c_ltT, e_newI, e_peekI, e_isiC, e_lenSet, f_meth, i_seq, i_r1, i_r2, i_r3, slot_0, slot_s, slotO_0, slotO_s, slotA_0, slotA_s, b_add, b_sub, b_mul, b_fdiv, b_mod, b_pow, c_lt, c_le, c_gt, c_ge, c_eq, c_ne, x_lst, x_tup, len_lst, len_tup, bi_abs, bi_max2, bi_min2, bi_min3, bi_max3, is_int, is_lst, tr_bl, tr_int, tr_lst, ne_int, it_lst, it_tup, om_app, dr_lst, sd_lst, sd_tup, lstD_lst, tupD_tup, lO_l, lft_some, lft_map, lft_bind, au_add, au_sub, List.set_cons_zero, List.set_cons_succ, decide_eq_true_eq, Bool.not_eq_true', Bool.false_eq_true, Bool.true_eq_false, if_true, if_false, List.map_cons, List.map_nil, p10_6, p10_9, p10_11, p10_12, p10_18]; (first | exact ⟨rfl, rfl⟩ | exact ⟨rfl, trivial⟩ | exact ⟨trivial, rfl⟩ | exact ⟨trivial, trivial⟩ | trivial)) (fun hc => ?_) fun hc => ?_
  · have hc : k = 11 := by have := of_decide_eq_true hc; omega
    subst hc
    rw [w_cons, w_raisC]
    simp only [sat_ok, e_int, e_str, e_non, e_bl, e_gc, e_var, e_bin, e_neg, e_cmp, e_chain, e_and, e_or, e_not, e_ife, e_tup, e_idx, e_cutS, e_fz, frz_v, frz_l, e_peek, e_bi, e_isi, e_dft, e_new, e_join, e_dct0, e_dct1, bi_tupL, bi_tupT, es_nil, es_cons, t_and, t_or, t_not, t_cmp, t_chain, t_val, t_yes, ta_1, ta_s, to_1, to_s, ea_1, ea_s, eo_1, eo_s, p_none, p_some, intP_int, f_lst, f_cutL, f_rev, f_cat, f_listOf, f_call, f_repE, f_lrange, i_zip, f_sorted, f_sortSet, f_sortK, c_ltT, e_newI, e_peekI, e_isiC, e_lenSet, f_meth, i_seq, i_r1, i_r2, i_r3, slot_0, slot_s, slotO_0, slotO_s, slotA_0, slotA_s, b_add, b_sub, b_mul, b_fdiv, b_mod, b_pow, c_lt, c_le, c_gt, c_ge, c_eq, c_ne, x_lst, x_tup, len_lst, len_tup, bi_abs, bi_max2, bi_min2, bi_min3, bi_max3, is_int, is_lst, tr_bl, tr_int, tr_lst, ne_int, it_lst, it_tup, om_app, dr_lst, sd_lst, sd_tup, lstD_lst, tupD_tup, lO_l, lft_some, lft_map, lft_bind, au_add, au_sub, List.set_cons_zero, List.set_cons_succ, decide_eq_true_eq, Bool.not_eq_true', Bool.false_eq_true, Bool.true_eq_false, if_true, if_false, List.map_cons, List.map_nil, p10_6, p10_9, p10_11, p10_12, p10_18]
    exact h
  (rw [w_nil]; dsimp only; rw [w_cons])
  refine w_ifB (decide ((k : Int) = 12)) (by simp only [sat_ok, e_int, e_str, e_non, e_bl, e_gc, e_var, e_bin, e_neg, e_cmp, e_chain, e_and, e_or, e_not, e_ife, e_tup, e_idx, e_cutS, e_fz, frz_v, frz_l, e_peek, e_bi, e_isi, e_dft, e_new, e_join, e_dct0, e_dct1, bi_tupL, bi_tupT, es_nil, es_cons, t_and, t_or, t_not, t_cmp, t_chain, t_val, t_yes, ta_1, ta_s, to_1, to_s, ea_1, ea_s, eo_1, eo_s, p_none, p_some, intP_int, f_lst, f_cutL, f_rev, f_cat, f_listOf, f_call, f_repE, f_lrange, i_zip, f_sorted, f_sortSet, f_sortK, c_ltT, e_newI, e_peekI, e_isiC, e_lenSet, f_meth, i_seq, i_r1, i_r2, i_r3, slot_0, slot_s, slotO_0, slotO_s, slotA_0, slotA_s, b_add, b_sub, b_mul, b_fdiv, b_mod, b_pow, c_lt, c_le, c_gt, c_ge, c_eq, c_ne, x_lst, x_tup, len_lst, len_tup, bi_abs, bi_max2, bi_min2, bi_min3, bi_max3, is_int, is_lst, tr_bl, tr_int, tr_lst, ne_int, it_lst, it_tup, om_app, dr_lst, sd_lst, sd_tup, lstD_lst, tupD_tup, lO_l, lft_some, lft_map, lft_bind, au_add, au_sub, List.set_cons_zero, List.set_cons_succ, decide_eq_true_eq, Bool.not_eq_true', Bool.false_eq_true, Bool.true_eq_false, if_true, if_false, List.map_cons, List.map_nil, p10_6, p10_9, p10_11, p10_12, p10_18]; (first | exact ⟨rfl, rfl⟩ | exact ⟨rfl, trivial⟩ | exact ⟨trivial, rfl⟩ | exact ⟨trivial, trivial⟩ | trivial)) (fun hc => ?_) fun hc => ?_
  · have hc : k = 12 := by have := of_decide_eq_true hc; omega
    subst hc
    rw [w_cons, w_raisC]
    simp only [sat_ok, e_int, e_str, e_non, e_bl, e_gc, e_var, e_bin, e_neg, e_cmp, e_chain, e_and, e_or, e_not, e_ife, e_tup, e_idx, e_cutS, e_fz, frz_v, frz_l, e_peek, e_bi, e_isi, e_dft, e_new, e_join, e_dct0, e_dct1, bi_tupL, bi_tupT, es_nil, es_cons, t_and, t_or, t_not, t_cmp, t_chain, t_val, t_yes, ta_1, ta_s, to_1, to_s, ea_1, ea_s, eo_1, eo_s, p_none, p_some, intP_int, f_lst, f_cutL, f_rev, f_cat, f_listOf, f_call, f_repE, f_lrange, i_zip, f_sorted, f_sortSet, f_sortK, c_ltT, e_newI, e_peekI, e_isiC, e_lenSet, f_meth, i_seq, i_r1, i_r2, i_r3, slot_0, slot_s, slotO_0, slotO_s, slotA_0, slotA_s, b_add, b_sub, b_mul, b_fdiv, b_mod, b_pow, c_lt, c_le, c_gt, c_ge, c_eq, c_ne, x_lst, x_tup, len_lst, len_tup, bi_abs, bi_max2, bi_min2, bi_min3, bi_max3, is_int, is_lst, tr_bl, tr_int, tr_lst, ne_int, it_lst, it_tup, om_app, dr_lst, sd_lst, sd_tup, lstD_lst, tupD_tup, lO_l, lft_some, lft_map, lft_bind, au_add, au_sub, List.set_cons_zero, List.set_cons_succ, decide_eq_true_eq, Bool.not_eq_true', Bool.false_eq_true, Bool.true_eq_false, if_true, if_false, List.map_cons, List.map_nil, p10_6, p10_9, p10_11, p10_12, p10_18]
    exact h
  (rw [w_nil]; dsimp only; rw [w_cons])
  refine w_ifB (decide ((k : Int) = 13)) (by simp only [sat_ok, e_int, e_str, e_non, e_bl, e_gc, e_var, e_bin, e_neg, e_cmp, e_chain, e_and, e_or, e_not, e_ife, e_tup, e_idx, e_cutS, e_fz, frz_v, frz_l, e_peek, e_bi, e_isi, e_dft, e_new, e_join, e_dct0, e_dct1, bi_tupL, bi_tupT, es_nil, es_cons, t_and, t_or, t_not, t_cmp, t_chain, t_val, t_yes, ta_1, ta_s, to_1, to_s, ea_1, ea_s, eo_1, eo_s, p_none, p_some, intP_int, f_lst, f_cutL, f_rev, f_cat, f_listOf, f_call, f_repE, f_lrange, i_zip, f_sorted, f_sortSet, f_sortK, c_ltT, e_newI, e_peekI, e_isiC, e_lenSet, f_meth, i_seq, i_r1, i_r2, i_r3, slot_0, slot_s, slotO_0, slotO_s, slotA_0, slotA_s, b_add, b_sub, b_mul, b_fdiv, b_mod, b_pow, c_lt, c_le, c_gt, c_ge, c_eq, c_ne, x_lst, x_tup, len_lst, len_tup, bi_abs, bi_max2, bi_min2, bi_min3, bi_max3, is_int, is_lst, tr_bl, tr_int, tr_lst, ne_int, it_lst, it_tup, om_app, dr_lst, sd_lst, sd_tup, lstD_lst, tupD_tup, lO_l, lft_some, lft_map, lft_bind, au_add, au_sub, List.set_cons_zero, List.set_cons_succ, decide_eq_true_eq, Bool.not_eq_true', Bool.false_eq_true, Bool.true_eq_false, if_true, if_false, List.map_cons, List.map_nil, p10_6, p10_9, p10_11, p10_12, p10_18]; (first | exact ⟨rfl, rfl⟩ | exact ⟨rfl, trivial⟩ | exact ⟨trivial, rfl⟩ | exact ⟨trivial, trivial⟩ | trivial)) (fun hc => ?_) fun hc => ?_
  · have hc : k = 13 := by have := of_decide_eq_true hc; omega
    subst hc
    rw [w_cons, w_raisC]
    simp only [sat_ok, e_int, e_str, e_non, e_bl, e_gc, e_var, e_bin, e_neg, e_cmp, e_chain, e_and, e_or, e_not, e_ife, e_tup, e_idx, e_cutS, e_fz, frz_v, frz_l, e_peek, e_bi, e_isi, e_dft, e_new, e_join, e_dct0, e_dct1, bi_tupL, bi_tupT, es_nil, es_cons, t_and, t_or, t_not, t_cmp, t_chain, t_val, t_yes, ta_1, ta_s, to_1, to_s, ea_1, ea_s, eo_1, eo_s, p_none, p_some, intP_int, f_lst, f_cutL, f_rev, f_cat, f_listOf, f_call, f_repE, f_lrange, i_zip, f_sorted, f_sortSet, f_sortK, c_ltT, e_newI, e_peekI, e_isiC, e_lenSet, f_meth, i_seq, i_r1, i_r2, i_r3, slot_0, slot_s, slotO_0, slotO_s, slotA_0, slotA_s, b_add, b_sub, b_mul, b_fdiv, b_mod, b_pow, c_lt, c_le, c_gt, c_ge, c_eq, c_ne, x_lst, x_tup, len_lst, len_tup, bi_abs, bi_max2, bi_min2, bi_min3, bi_max3, is_int, is_lst, tr_bl, tr_int, tr_lst, ne_int, it_lst, it_tup, om_app, dr_lst, sd_lst, sd_tup, lstD_lst, tupD_tup, lO_l, lft_some, lft_map, lft_bind, au_add, au_sub, List.set_cons_zero, List.set_cons_succ, decide_eq_true_eq, Bool.not_eq_true', Bool.false_eq_true, Bool.true_eq_false, if_true, if_false, List.map_cons, List.map_nil, p10_6, p10_9, p10_11, p10_12, p10_18]
    exact h
  have hk14 : k = 14 := by
    simp only [decide_eq_false_iff_not] at *
    omega
  subst hk14
  (rw [w_nil]; dsimp only; rw [w_cons])
  rw [w_raisC]
  simp only [sat_ok, e_int, e_str, e_non, e_bl, e_gc, e_var, e_bin, e_neg, e_cmp, e_chain, e_and, e_or, e_not, e_ife, e_tup, e_idx, e_cutS, e_fz, frz_v, frz_l, e_peek, e_bi, e_isi, e_dft, e_new, e_join, e_dct0, e_dct1, bi_tupL, bi_tupT, es_nil, es_cons, t_and, t_or, t_not, t_cmp, t_chain, t_val, t_yes, ta_1, ta_s, to_1, to_s, ea_1, ea_s, eo_1, eo_s, p_none, p_some, intP_int, f_lst, f_cutL, f_rev, f_cat, f_listOf, f_call, f_repE, f_lrange, i_zip, f_sorted, f_sortSet, f_sortK, c_ltT, e_newI, e_peekI, e_isiC, e_lenSet, f_meth, i_seq, i_r1, i_r2, i_r3, slot_0, slot_s, slotO_0, slotO_s, slotA_0, slotA_s, b_add, b_sub, b_mul, b_fdiv, b_mod, b_pow, c_lt, c_le, c_gt, c_ge, c_eq, c_ne, x_lst, x_tup, len_lst, len_tup, bi_abs, bi_max2, bi_min2, bi_min3, bi_max3, is_int, is_lst, tr_bl, tr_int, tr_lst, ne_int, it_lst, it_tup, om_app, dr_lst, sd_lst, sd_tup, lstD_lst, tupD_tup, lO_l, lft_some, lft_map, lft_bind, au_add, au_sub, List.set_cons_zero, List.set_cons_succ, decide_eq_true_eq, Bool.not_eq_true', Bool.false_eq_true, Bool.true_eq_false, if_true, if_false, List.map_cons, List.map_nil, p10_6, p10_9, p10_11, p10_12, p10_18]
  exact h
theorem lk_0 : ∀ c, c < 15 → List.lookup c ([(0, true), (1, false), (2, false), (3, false), (4, false), (5, false), (6, false), (7, false), (8, false), (9, false), (10, false), (11, false), (12, false), (13, false), (14, false)] : List (Nat × Bool)) = some (decide (c = 0)) := by decide
theorem lk_1 : ∀ c, c < 15 → List.lookup c ([(0, false), (1, true), (2, false), (3, false), (4, false), (5, false), (6, false), (7, false), (8, false), (9, false), (10, false), (11, false), (12, false), (13, false), (14, false)] : List (Nat × Bool)) = some (decide (c = 1)) := by decide
theorem lk_2 : ∀ c, c < 15 → List.lookup c ([(0, false), (1, false), (2, true), (3, false), (4, false), (5, false), (6, false), (7, false), (8, false), (9, false), (10, false), (11, false), (12, false), (13, false), (14, false)] : List (Nat × Bool)) = some (decide (c = 2)) := by decide
theorem lk_3 : ∀ c, c < 15 → List.lookup c ([(0, false), (1, false), (2, false), (3, true), (4, false), (5, false), (6, false), (7, false), (8, false), (9, false), (10, false), (11, false), (12, false), (13, false), (14, false)] : List (Nat × Bool)) = some (decide (c = 3)) := by decide
theorem lk_4 : ∀ c, c < 15 → List.lookup c ([(0, false), (1, false), (2, false), (3, false), (4, true), (5, false), (6, false), (7, false), (8, false), (9, false), (10, false), (11, false), (12, false), (13, false), (14, false)] : List (Nat × Bool)) = some (decide (c = 4)) := by decide
theorem lk_5 : ∀ c, c < 15 → List.lookup c ([(0, false), (1, false), (2, false), (3, false), (4, false), (5, true), (6, false), (7, false), (8, false), (9, false), (10, false), (11, false), (12, false), (13, false), (14, false)] : List (Nat × Bool)) = some (decide (c = 5)) := by decide
theorem lk_6 : ∀ c, c < 15 → List.lookup c ([(0, false), (1, false), (2, false), (3, false), (4, false), (5, false), (6, true), (7, false), (8, false), (9, false), (10, false), (11, false), (12, false), (13, false), (14, false)] : List (Nat × Bool)) = some (decide (c = 6)) := by decide
theorem lk_7 : ∀ c, c < 15 → List.lookup c ([(0, false), (1, false), (2, false), (3, false), (4, false), (5, false), (6, false), (7, true), (8, false), (9, false), (10, false), (11, false), (12, false), (13, false), (14, false)] : List (Nat × Bool)) = some (decide (c = 7)) := by decide
theorem lk_8 : ∀ c, c < 15 → List.lookup c ([(0, false), (1, false), (2, false), (3, false), (4, false), (5, false), (6, false), (7, false), (8, true), (9, false), (10, false), (11, false), (12, false), (13, false), (14, false)] : List (Nat × Bool)) = some (decide (c = 8)) := by decide
theorem lk_9 : ∀ c, c < 15 → List.lookup c ([(0, false), (1, false), (2, false), (3, false), (4, false), (5, false), (6, false), (7, false), (8, false), (9, true), (10, false), (11, false), (12, false), (13, false), (14, false)] : List (Nat × Bool)) = some (decide (c = 9)) := by decide
theorem lk_10 : ∀ c, c < 15 → List.lookup c ([(0, false), (1, false), (2, false), (3, false), (4, false), (5, false), (6, false), (7, false), (8, false), (9, false), (10, true), (11, false), (12, false), (13, false), (14, false)] : List (Nat × Bool)) = some (decide (c = 10)) := by decide
theorem lk_11 : ∀ c, c < 15 → List.lookup c ([(0, false), (1, false), (2, false), (3, false), (4, false), (5, false), (6, false), (7, false), (8, false), (9, false), (10, false), (11, true), (12, false), (13, false), (14, false)] : List (Nat × Bool)) = some (decide (c = 11)) := by decide
theorem lk_12 : ∀ c, c < 15 → List.lookup c ([(0, false), (1, false), (2, false), (3, false), (4, false), (5, false), (6, false), (7, false), (8, false), (9, false), (10, false), (11, false), (12, true), (13, false), (14, false)] : List (Nat × Bool)) = some (decide (c = 12)) := by decide
theorem lk_13 : ∀ c, c < 15 → List.lookup c ([(0, false), (1, false), (2, false), (3, false), (4, false), (5, false), (6, false), (7, false), (8, false), (9, false), (10, false), (11, false), (12, false), (13, true), (14, false)] : List (Nat × Bool)) = some (decide (c = 13)) := by decide
theorem lk_14 : ∀ c, c < 15 → List.lookup c ([(0, false), (1, false), (2, false), (3, false), (4, false), (5, false), (6, false), (7, false), (8, false), (9, false), (10, false), (11, false), (12, false), (13, false), (14, true)] : List (Nat × Bool)) = some (decide (c = 14)) := by decide
theorem lk_all : ∀ c, c < 15 → List.lookup c ([(0, true), (1, true), (2, true), (3, true), (4, true), (5, true), (6, true), (7, true), (8, true), (9, true), (10, true), (11, true), (12, true), (13, true), (14, true)] : List (Nat × Bool)) = some true := by decide
/-- which one it is -/
def kinds (k : Nat) : List D := [.bl (decide (k = 0)), .bl (decide (k = 1)), .bl (decide (k = 2)), .bl (decide (k = 3)), .bl (decide (k = 4)), .bl (decide (k = 5)), .bl (decide (k = 6)), .bl (decide (k = 7)), .bl (decide (k = 8)), .bl (decide (k = 9)), .bl (decide (k = 10)), .bl (decide (k = 11)), .bl (decide (k = 12)), .bl (decide (k = 13)), .bl (decide (k = 14)), .bl true]
theorem sat_kinds {j k : Nat} {w m : D} {s : Sto} {Q : O → Sto → Prop} (hk : k < 15) (h : Q (.l (kinds k)) s) : sat (call P (j + 2) no_law_kinds [.int (k : Int), w, m] s) Q := by
  refine sat_call (m := ⟨3, 5, b_law_kinds⟩) (δ := [_, _, _, none, none]) rfl rfl rfl ?_
  simp only [b_law_kinds]
  rw [w_cons, w_try, w_cons, w_cx]
  simp only [sat_ok, e_int, e_str, e_non, e_bl, e_gc, e_var, e_bin, e_neg, e_cmp, e_chain, e_and, e_or, e_not, e_ife, e_tup, e_idx, e_cutS, e_fz, frz_v, frz_l, e_peek, e_bi, e_isi, e_dft, e_new, e_join, e_dct0, e_dct1, bi_tupL, bi_tupT, es_nil, es_cons, t_and, t_or, t_not, t_cmp, t_chain, t_val, t_yes, ta_1, ta_s, to_1, to_s, ea_1, ea_s, eo_1, eo_s, p_none, p_some, intP_int, f_lst, f_cutL, f_rev, f_cat, f_listOf, f_call, f_repE, f_lrange, i_zip, f_sorted, f_sortSet, f_sortK, c_ltT, e_newI, e_peekI, e_isiC, e_lenSet, f_meth, i_seq, i_r1, i_r2, i_r3, slot_0, slot_s, slotO_0, slotO_s, slotA_0, slotA_s, b_add, b_sub, b_mul, b_fdiv, b_mod, b_pow, c_lt, c_le, c_gt, c_ge, c_eq, c_ne, x_lst, x_tup, len_lst, len_tup, bi_abs, bi_max2, bi_min2, bi_min3, bi_max3, is_int, is_lst, tr_bl, tr_int, tr_lst, ne_int, it_lst, it_tup, om_app, dr_lst, sd_lst, sd_tup, lstD_lst, tupD_tup, lO_l, lft_some, lft_map, lft_bind, au_add, au_sub, List.set_cons_zero, List.set_cons_succ, decide_eq_true_eq, Bool.not_eq_true', Bool.false_eq_true, Bool.true_eq_false, if_true, if_false, List.map_cons, List.map_nil, p10_6, p10_9, p10_11, p10_12, p10_18]
  refine sat_raised hk ?_
  rw [h_yes (lk_all k hk)]
  simp only [heldL, List.set_cons_zero, List.set_cons_succ]
  rw [w_cons]
  simp only [sat_ok, e_int, e_str, e_non, e_bl, e_gc, e_var, e_bin, e_neg, e_cmp, e_chain, e_and, e_or, e_not, e_ife, e_tup, e_idx, e_cutS, e_fz, frz_v, frz_l, e_peek, e_bi, e_isi, e_dft, e_new, e_join, e_dct0, e_dct1, bi_tupL, bi_tupT, es_nil, es_cons, t_and, t_or, t_not, t_cmp, t_chain, t_val, t_yes, ta_1, ta_s, to_1, to_s, ea_1, ea_s, eo_1, eo_s, p_none, p_some, intP_int, f_lst, f_cutL, f_rev, f_cat, f_listOf, f_call, f_repE, f_lrange, i_zip, f_sorted, f_sortSet, f_sortK, c_ltT, e_newI, e_peekI, e_isiC, e_lenSet, f_meth, i_seq, i_r1, i_r2, i_r3, slot_0, slot_s, slotO_0, slotO_s, slotA_0, slotA_s, b_add, b_sub, b_mul, b_fdiv, b_mod, b_pow, c_lt, c_le, c_gt, c_ge, c_eq, c_ne, x_lst, x_tup, len_lst, len_tup, bi_abs, bi_max2, bi_min2, bi_min3, bi_max3, is_int, is_lst, tr_bl, tr_int, tr_lst, ne_int, it_lst, it_tup, om_app, dr_lst, sd_lst, sd_tup, lstD_lst, tupD_tup, lO_l, lft_some, lft_map, lft_bind, au_add, au_sub, List.set_cons_zero, List.set_cons_succ, decide_eq_true_eq, Bool.not_eq_true', Bool.false_eq_true, Bool.true_eq_false, if_true, if_false, List.map_cons, List.map_nil, p10_6, p10_9, p10_11, p10_12, p10_18, w_nil, w_asg, w_asgO, w_asgC, w_asgT, w_par, w_aug, w_setC, w_augC, w_setO, w_augO, w_mtO, w_mtC, w_if, w_for, w_ret, w_retF, w_retV, w_retN, w_exp, w_pass, w_brk, w_cont, e_xis, slotX_0, slotX_s, lk_0 _ hk, lk_1 _ hk, lk_2 _ hk, lk_3 _ hk, lk_4 _ hk, lk_5 _ hk, lk_6 _ hk, lk_7 _ hk, lk_8 _ hk, lk_9 _ hk, lk_10 _ hk, lk_11 _ hk, lk_12 _ hk, lk_13 _ hk, lk_14 _ hk]
  refine ⟨len63 (by simp), ?_⟩
  rw [w_cons]
  simp only [sat_ok, e_int, e_str, e_non, e_bl, e_gc, e_var, e_bin, e_neg, e_cmp, e_chain, e_and, e_or, e_not, e_ife, e_tup, e_idx, e_cutS, e_fz, frz_v, frz_l, e_peek, e_bi, e_isi, e_dft, e_new, e_join, e_dct0, e_dct1, bi_tupL, bi_tupT, es_nil, es_cons, t_and, t_or, t_not, t_cmp, t_chain, t_val, t_yes, ta_1, ta_s, to_1, to_s, ea_1, ea_s, eo_1, eo_s, p_none, p_some, intP_int, f_lst, f_cutL, f_rev, f_cat, f_listOf, f_call, f_repE, f_lrange, i_zip, f_sorted, f_sortSet, f_sortK, c_ltT, e_newI, e_peekI, e_isiC, e_lenSet, f_meth, i_seq, i_r1, i_r2, i_r3, slot_0, slot_s, slotO_0, slotO_s, slotA_0, slotA_s, b_add, b_sub, b_mul, b_fdiv, b_mod, b_pow, c_lt, c_le, c_gt, c_ge, c_eq, c_ne, x_lst, x_tup, len_lst, len_tup, bi_abs, bi_max2, bi_min2, bi_min3, bi_max3, is_int, is_lst, tr_bl, tr_int, tr_lst, ne_int, it_lst, it_tup, om_app, dr_lst, sd_lst, sd_tup, lstD_lst, tupD_tup, lO_l, lft_some, lft_map, lft_bind, au_add, au_sub, List.set_cons_zero, List.set_cons_succ, decide_eq_true_eq, Bool.not_eq_true', Bool.false_eq_true, Bool.true_eq_false, if_true, if_false, List.map_cons, List.map_nil, p10_6, p10_9, p10_11, p10_12, p10_18, w_nil, w_asg, w_asgO, w_asgC, w_asgT, w_par, w_aug, w_setC, w_augC, w_setO, w_augO, w_mtO, w_mtC, w_if, w_for, w_ret, w_retF, w_retV, w_retN, w_exp, w_pass, w_brk, w_cont, e_xis, slotX_0, slotX_s, lk_0 _ hk, lk_1 _ hk, lk_2 _ hk, lk_3 _ hk, lk_4 _ hk, lk_5 _ hk, lk_6 _ hk, lk_7 _ hk, lk_8 _ hk, lk_9 _ hk, lk_10 _ hk, lk_11 _ hk, lk_12 _ hk, lk_13 _ hk, lk_14 _ hk]
  refine ⟨len63 (by simp), len63 (by simp), ?_⟩
  rw [w_cons]
  simp only [sat_ok, e_int, e_str, e_non, e_bl, e_gc, e_var, e_bin, e_neg, e_cmp, e_chain, e_and, e_or, e_not, e_ife, e_tup, e_idx, e_cutS, e_fz, frz_v, frz_l, e_peek, e_bi, e_isi, e_dft, e_new, e_join, e_dct0, e_dct1, bi_tupL, bi_tupT, es_nil, es_cons, t_and, t_or, t_not, t_cmp, t_chain, t_val, t_yes, ta_1, ta_s, to_1, to_s, ea_1, ea_s, eo_1, eo_s, p_none, p_some, intP_int, f_lst, f_cutL, f_rev, f_cat, f_listOf, f_call, f_repE, f_lrange, i_zip, f_sorted, f_sortSet, f_sortK, c_ltT, e_newI, e_peekI, e_isiC, e_lenSet, f_meth, i_seq, i_r1, i_r2, i_r3, slot_0, slot_s, slotO_0, slotO_s, slotA_0, slotA_s, b_add, b_sub, b_mul, b_fdiv, b_mod, b_pow, c_lt, c_le, c_gt, c_ge, c_eq, c_ne, x_lst, x_tup, len_lst, len_tup, bi_abs, bi_max2, bi_min2, bi_min3, bi_max3, is_int, is_lst, tr_bl, tr_int, tr_lst, ne_int, it_lst, it_tup, om_app, dr_lst, sd_lst, sd_tup, lstD_lst, tupD_tup, lO_l, lft_some, lft_map, lft_bind, au_add, au_sub, List.set_cons_zero, List.set_cons_succ, decide_eq_true_eq, Bool.not_eq_true', Bool.false_eq_true, Bool.true_eq_false, if_true, if_false, List.map_cons, List.map_nil, p10_6, p10_9, p10_11, p10_12, p10_18, w_nil, w_asg, w_asgO, w_asgC, w_asgT, w_par, w_aug, w_setC, w_augC, w_setO, w_augO, w_mtO, w_mtC, w_if, w_for, w_ret, w_retF, w_retV, w_retN, w_exp, w_pass, w_brk, w_cont, e_xis, slotX_0, slotX_s, lk_0 _ hk, lk_1 _ hk, lk_2 _ hk, lk_3 _ hk, lk_4 _ hk, lk_5 _ hk, lk_6 _ hk, lk_7 _ hk, lk_8 _ hk, lk_9 _ hk, lk_10 _ hk, lk_11 _ hk, lk_12 _ hk, lk_13 _ hk, lk_14 _ hk]
  refine ⟨len63 (by simp), len63 (by simp), ?_⟩
  rw [w_cons]
  simp only [sat_ok, e_int, e_str, e_non, e_bl, e_gc, e_var, e_bin, e_neg, e_cmp, e_chain, e_and, e_or, e_not, e_ife, e_tup, e_idx, e_cutS, e_fz, frz_v, frz_l, e_peek, e_bi, e_isi, e_dft, e_new, e_join, e_dct0, e_dct1, bi_tupL, bi_tupT, es_nil, es_cons, t_and, t_or, t_not, t_cmp, t_chain, t_val, t_yes, ta_1, ta_s, to_1, to_s, ea_1, ea_s, eo_1, eo_s, p_none, p_some, intP_int, f_lst, f_cutL, f_rev, f_cat, f_listOf, f_call, f_repE, f_lrange, i_zip, f_sorted, f_sortSet, f_sortK, c_ltT, e_newI, e_peekI, e_isiC, e_lenSet, f_meth, i_seq, i_r1, i_r2, i_r3, slot_0, slot_s, slotO_0, slotO_s, slotA_0, slotA_s, b_add, b_sub, b_mul, b_fdiv, b_mod, b_pow, c_lt, c_le, c_gt, c_ge, c_eq, c_ne, x_lst, x_tup, len_lst, len_tup, bi_abs, bi_max2, bi_min2, bi_min3, bi_max3, is_int, is_lst, tr_bl, tr_int, tr_lst, ne_int, it_lst, it_tup, om_app, dr_lst, sd_lst, sd_tup, lstD_lst, tupD_tup, lO_l, lft_some, lft_map, lft_bind, au_add, au_sub, List.set_cons_zero, List.set_cons_succ, decide_eq_true_eq, Bool.not_eq_true', Bool.false_eq_true, Bool.true_eq_false, if_true, if_false, List.map_cons, List.map_nil, p10_6, p10_9, p10_11, p10_12, p10_18, w_nil, w_asg, w_asgO, w_asgC, w_asgT, w_par, w_aug, w_setC, w_augC, w_setO, w_augO, w_mtO, w_mtC, w_if, w_for, w_ret, w_retF, w_retV, w_retN, w_exp, w_pass, w_brk, w_cont, e_xis, slotX_0, slotX_s, lk_0 _ hk, lk_1 _ hk, lk_2 _ hk, lk_3 _ hk, lk_4 _ hk, lk_5 _ hk, lk_6 _ hk, lk_7 _ hk, lk_8 _ hk, lk_9 _ hk, lk_10 _ hk, lk_11 _ hk, lk_12 _ hk, lk_13 _ hk, lk_14 _ hk]
  refine ⟨len63 (by simp), len63 (by simp), ?_⟩
  rw [w_cons]
  simp only [sat_ok, e_int, e_str, e_non, e_bl, e_gc, e_var, e_bin, e_neg, e_cmp, e_chain, e_and, e_or, e_not, e_ife, e_tup, e_idx, e_cutS, e_fz, frz_v, frz_l, e_peek, e_bi, e_isi, e_dft, e_new, e_join, e_dct0, e_dct1, bi_tupL, bi_tupT, es_nil, es_cons, t_and, t_or, t_not, t_cmp, t_chain, t_val, t_yes, ta_1, ta_s, to_1, to_s, ea_1, ea_s, eo_1, eo_s, p_none, p_some, intP_int, f_lst, f_cutL, f_rev, f_cat, f_listOf, f_call, f_repE, f_lrange, i_zip, f_sorted, f_sortSet, f_sortK, c_ltT, e_newI, e_peekI, e_isiC, e_lenSet, f_meth, i_seq, i_r1, i_r2, i_r3, slot_0, slot_s, slotO_0, slotO_s, slotA_0, slotA_s, b_add, b_sub, b_mul, b_fdiv, b_mod, b_pow, c_lt, c_le, c_gt, c_ge, c_eq, c_ne, x_lst, x_tup, len_lst, len_tup, bi_abs, bi_max2, bi_min2, bi_min3, bi_max3, is_int, is_lst, tr_bl, tr_int, tr_lst, ne_int, it_lst, it_tup, om_app, dr_lst, sd_lst, sd_tup, lstD_lst, tupD_tup, lO_l, lft_some, lft_map, lft_bind, au_add, au_sub, List.set_cons_zero, List.set_cons_succ, decide_eq_true_eq, Bool.not_eq_true', Bool.false_eq_true, Bool.true_eq_false, if_true, if_false, List.map_cons, List.map_nil, p10_6, p10_9, p10_11, p10_12, p10_18, w_nil, w_asg, w_asgO, w_asgC, w_asgT, w_par, w_aug, w_setC, w_augC, w_setO, w_augO, w_mtO, w_mtC, w_if, w_for, w_ret, w_retF, w_retV, w_retN, w_exp, w_pass, w_brk, w_cont, e_xis, slotX_0, slotX_s, lk_all _ hk]
  refine ⟨len63 (by simp), len63 (by simp), ?_⟩
  exact h
theorem sat_at_4 {j : Nat} {v : D} {s : Sto} {Q : O → Sto → Prop} (h : Q (.l [v]) s) : sat (call P (j + 2) no_law_at [.int ((4 : Nat) : Int), v] s) Q := by
  refine sat_call (m := ⟨2, 3, b_law_at⟩) (δ := [_, _, none]) rfl rfl rfl ?_
  simp only [b_law_at]
  rw [w_cons, w_try, w_cons, w_cx]
  simp only [sat_ok, e_int, e_str, e_non, e_bl, e_gc, e_var, e_bin, e_neg, e_cmp, e_chain, e_and, e_or, e_not, e_ife, e_tup, e_idx, e_cutS, e_fz, frz_v, frz_l, e_peek, e_bi, e_isi, e_dft, e_new, e_join, e_dct0, e_dct1, bi_tupL, bi_tupT, es_nil, es_cons, t_and, t_or, t_not, t_cmp, t_chain, t_val, t_yes, ta_1, ta_s, to_1, to_s, ea_1, ea_s, eo_1, eo_s, p_none, p_some, intP_int, f_lst, f_cutL, f_rev, f_cat, f_listOf, f_call, f_repE, f_lrange, i_zip, f_sorted, f_sortSet, f_sortK, c_ltT, e_newI, e_peekI, e_isiC, e_lenSet, f_meth, i_seq, i_r1, i_r2, i_r3, slot_0, slot_s, slotO_0, slotO_s, slotA_0, slotA_s, b_add, b_sub, b_mul, b_fdiv, b_mod, b_pow, c_lt, c_le, c_gt, c_ge, c_eq, c_ne, x_lst, x_tup, len_lst, len_tup, bi_abs, bi_max2, bi_min2, bi_min3, bi_max3, is_int, is_lst, tr_bl, tr_int, tr_lst, ne_int, it_lst, it_tup, om_app, dr_lst, sd_lst, sd_tup, lstD_lst, tupD_tup, lO_l, lft_some, lft_map, lft_bind, au_add, au_sub, List.set_cons_zero, List.set_cons_succ, decide_eq_true_eq, Bool.not_eq_true', Bool.false_eq_true, Bool.true_eq_false, if_true, if_false, List.map_cons, List.map_nil, p10_6, p10_9, p10_11, p10_12, p10_18]
  refine sat_raised (k := 4) (by decide) ?_
  rw [h_yes (by decide)]
  simp only [heldL, List.set_cons_zero, List.set_cons_succ]
  rw [w_cons]
  simp only [sat_ok, e_int, e_str, e_non, e_bl, e_gc, e_var, e_bin, e_neg, e_cmp, e_chain, e_and, e_or, e_not, e_ife, e_tup, e_idx, e_cutS, e_fz, frz_v, frz_l, e_peek, e_bi, e_isi, e_dft, e_new, e_join, e_dct0, e_dct1, bi_tupL, bi_tupT, es_nil, es_cons, t_and, t_or, t_not, t_cmp, t_chain, t_val, t_yes, ta_1, ta_s, to_1, to_s, ea_1, ea_s, eo_1, eo_s, p_none, p_some, intP_int, f_lst, f_cutL, f_rev, f_cat, f_listOf, f_call, f_repE, f_lrange, i_zip, f_sorted, f_sortSet, f_sortK, c_ltT, e_newI, e_peekI, e_isiC, e_lenSet, f_meth, i_seq, i_r1, i_r2, i_r3, slot_0, slot_s, slotO_0, slotO_s, slotA_0, slotA_s, b_add, b_sub, b_mul, b_fdiv, b_mod, b_pow, c_lt, c_le, c_gt, c_ge, c_eq, c_ne, x_lst, x_tup, len_lst, len_tup, bi_abs, bi_max2, bi_min2, bi_min3, bi_max3, is_int, is_lst, tr_bl, tr_int, tr_lst, ne_int, it_lst, it_tup, om_app, dr_lst, sd_lst, sd_tup, lstD_lst, tupD_tup, lO_l, lft_some, lft_map, lft_bind, au_add, au_sub, List.set_cons_zero, List.set_cons_succ, decide_eq_true_eq, Bool.not_eq_true', Bool.false_eq_true, Bool.true_eq_false, if_true, if_false, List.map_cons, List.map_nil, p10_6, p10_9, p10_11, p10_12, p10_18, w_nil, w_asg, w_asgO, w_asgC, w_asgT, w_par, w_aug, w_setC, w_augC, w_setO, w_augO, w_mtO, w_mtC, w_if, w_for, w_ret, w_retF, w_retV, w_retN, w_exp, w_pass, w_brk, w_cont, e_xfl, slotX_0, slotX_s, xs, oneD_1]
  exact ⟨by decide, len63 (by simp), h⟩
theorem sat_at_11 {j : Nat} {v : D} {s : Sto} {Q : O → Sto → Prop} (h : Q (.l [v]) s) : sat (call P (j + 2) no_law_at [.int ((11 : Nat) : Int), v] s) Q := by
  refine sat_call (m := ⟨2, 3, b_law_at⟩) (δ := [_, _, none]) rfl rfl rfl ?_
  simp only [b_law_at]
  rw [w_cons, w_try, w_cons, w_cx]
  simp only [sat_ok, e_int, e_str, e_non, e_bl, e_gc, e_var, e_bin, e_neg, e_cmp, e_chain, e_and, e_or, e_not, e_ife, e_tup, e_idx, e_cutS, e_fz, frz_v, frz_l, e_peek, e_bi, e_isi, e_dft, e_new, e_join, e_dct0, e_dct1, bi_tupL, bi_tupT, es_nil, es_cons, t_and, t_or, t_not, t_cmp, t_chain, t_val, t_yes, ta_1, ta_s, to_1, to_s, ea_1, ea_s, eo_1, eo_s, p_none, p_some, intP_int, f_lst, f_cutL, f_rev, f_cat, f_listOf, f_call, f_repE, f_lrange, i_zip, f_sorted, f_sortSet, f_sortK, c_ltT, e_newI, e_peekI, e_isiC, e_lenSet, f_meth, i_seq, i_r1, i_r2, i_r3, slot_0, slot_s, slotO_0, slotO_s, slotA_0, slotA_s, b_add, b_sub, b_mul, b_fdiv, b_mod, b_pow, c_lt, c_le, c_gt, c_ge, c_eq, c_ne, x_lst, x_tup, len_lst, len_tup, bi_abs, bi_max2, bi_min2, bi_min3, bi_max3, is_int, is_lst, tr_bl, tr_int, tr_lst, ne_int, it_lst, it_tup, om_app, dr_lst, sd_lst, sd_tup, lstD_lst, tupD_tup, lO_l, lft_some, lft_map, lft_bind, au_add, au_sub, List.set_cons_zero, List.set_cons_succ, decide_eq_true_eq, Bool.not_eq_true', Bool.false_eq_true, Bool.true_eq_false, if_true, if_false, List.map_cons, List.map_nil, p10_6, p10_9, p10_11, p10_12, p10_18]
  refine sat_raised (k := 11) (by decide) ?_
  rw [h_next (by decide)]
  rw [h_yes (by decide)]
  simp only [heldL, List.set_cons_zero, List.set_cons_succ]
  rw [w_cons]
  simp only [sat_ok, e_int, e_str, e_non, e_bl, e_gc, e_var, e_bin, e_neg, e_cmp, e_chain, e_and, e_or, e_not, e_ife, e_tup, e_idx, e_cutS, e_fz, frz_v, frz_l, e_peek, e_bi, e_isi, e_dft, e_new, e_join, e_dct0, e_dct1, bi_tupL, bi_tupT, es_nil, es_cons, t_and, t_or, t_not, t_cmp, t_chain, t_val, t_yes, ta_1, ta_s, to_1, to_s, ea_1, ea_s, eo_1, eo_s, p_none, p_some, intP_int, f_lst, f_cutL, f_rev, f_cat, f_listOf, f_call, f_repE, f_lrange, i_zip, f_sorted, f_sortSet, f_sortK, c_ltT, e_newI, e_peekI, e_isiC, e_lenSet, f_meth, i_seq, i_r1, i_r2, i_r3, slot_0, slot_s, slotO_0, slotO_s, slotA_0, slotA_s, b_add, b_sub, b_mul, b_fdiv, b_mod, b_pow, c_lt, c_le, c_gt, c_ge, c_eq, c_ne, x_lst, x_tup, len_lst, len_tup, bi_abs, bi_max2, bi_min2, bi_min3, bi_max3, is_int, is_lst, tr_bl, tr_int, tr_lst, ne_int, it_lst, it_tup, om_app, dr_lst, sd_lst, sd_tup, lstD_lst, tupD_tup, lO_l, lft_some, lft_map, lft_bind, au_add, au_sub, List.set_cons_zero, List.set_cons_succ, decide_eq_true_eq, Bool.not_eq_true', Bool.false_eq_true, Bool.true_eq_false, if_true, if_false, List.map_cons, List.map_nil, p10_6, p10_9, p10_11, p10_12, p10_18, w_nil, w_asg, w_asgO, w_asgC, w_asgT, w_par, w_aug, w_setC, w_augC, w_setO, w_augO, w_mtO, w_mtC, w_if, w_for, w_ret, w_retF, w_retV, w_retN, w_exp, w_pass, w_brk, w_cont, e_xfl, slotX_0, slotX_s, xs, oneD_1]
  exact ⟨by decide, len63 (by simp), h⟩
theorem sat_wanted_8 {j : Nat} {v : D} {s : Sto} {Q : O → Sto → Prop} (h : Q (.l [v]) s) : sat (call P (j + 2) no_law_wanted [.int ((8 : Nat) : Int), v] s) Q := by
  refine sat_call (m := ⟨2, 3, b_law_wanted⟩) (δ := [_, _, none]) rfl rfl rfl ?_
  simp only [b_law_wanted]
  rw [w_cons, w_try, w_cons, w_cx]
  simp only [sat_ok, e_int, e_str, e_non, e_bl, e_gc, e_var, e_bin, e_neg, e_cmp, e_chain, e_and, e_or, e_not, e_ife, e_tup, e_idx, e_cutS, e_fz, frz_v, frz_l, e_peek, e_bi, e_isi, e_dft, e_new, e_join, e_dct0, e_dct1, bi_tupL, bi_tupT, es_nil, es_cons, t_and, t_or, t_not, t_cmp, t_chain, t_val, t_yes, ta_1, ta_s, to_1, to_s, ea_1, ea_s, eo_1, eo_s, p_none, p_some, intP_int, f_lst, f_cutL, f_rev, f_cat, f_listOf, f_call, f_repE, f_lrange, i_zip, f_sorted, f_sortSet, f_sortK, c_ltT, e_newI, e_peekI, e_isiC, e_lenSet, f_meth, i_seq, i_r1, i_r2, i_r3, slot_0, slot_s, slotO_0, slotO_s, slotA_0, slotA_s, b_add, b_sub, b_mul, b_fdiv, b_mod, b_pow, c_lt, c_le, c_gt, c_ge, c_eq, c_ne, x_lst, x_tup, len_lst, len_tup, bi_abs, bi_max2, bi_min2, bi_min3, bi_max3, is_int, is_lst, tr_bl, tr_int, tr_lst, ne_int, it_lst, it_tup, om_app, dr_lst, sd_lst, sd_tup, lstD_lst, tupD_tup, lO_l, lft_some, lft_map, lft_bind, au_add, au_sub, List.set_cons_zero, List.set_cons_succ, decide_eq_true_eq, Bool.not_eq_true', Bool.false_eq_true, Bool.true_eq_false, if_true, if_false, List.map_cons, List.map_nil, p10_6, p10_9, p10_11, p10_12, p10_18]
  refine sat_raised (k := 8) (by decide) ?_
  rw [h_yes (by decide)]
  simp only [heldL, List.set_cons_zero, List.set_cons_succ]
  rw [w_cons]
  simp only [sat_ok, e_int, e_str, e_non, e_bl, e_gc, e_var, e_bin, e_neg, e_cmp, e_chain, e_and, e_or, e_not, e_ife, e_tup, e_idx, e_cutS, e_fz, frz_v, frz_l, e_peek, e_bi, e_isi, e_dft, e_new, e_join, e_dct0, e_dct1, bi_tupL, bi_tupT, es_nil, es_cons, t_and, t_or, t_not, t_cmp, t_chain, t_val, t_yes, ta_1, ta_s, to_1, to_s, ea_1, ea_s, eo_1, eo_s, p_none, p_some, intP_int, f_lst, f_cutL, f_rev, f_cat, f_listOf, f_call, f_repE, f_lrange, i_zip, f_sorted, f_sortSet, f_sortK, c_ltT, e_newI, e_peekI, e_isiC, e_lenSet, f_meth, i_seq, i_r1, i_r2, i_r3, slot_0, slot_s, slotO_0, slotO_s, slotA_0, slotA_s, b_add, b_sub, b_mul, b_fdiv, b_mod, b_pow, c_lt, c_le, c_gt, c_ge, c_eq, c_ne, x_lst, x_tup, len_lst, len_tup, bi_abs, bi_max2, bi_min2, bi_min3, bi_max3, is_int, is_lst, tr_bl, tr_int, tr_lst, ne_int, it_lst, it_tup, om_app, dr_lst, sd_lst, sd_tup, lstD_lst, tupD_tup, lO_l, lft_some, lft_map, lft_bind, au_add, au_sub, List.set_cons_zero, List.set_cons_succ, decide_eq_true_eq, Bool.not_eq_true', Bool.false_eq_true, Bool.true_eq_false, if_true, if_false, List.map_cons, List.map_nil, p10_6, p10_9, p10_11, p10_12, p10_18, w_nil, w_asg, w_asgO, w_asgC, w_asgT, w_par, w_aug, w_setC, w_augC, w_setO, w_augO, w_mtO, w_mtC, w_if, w_for, w_ret, w_retF, w_retV, w_retN, w_exp, w_pass, w_brk, w_cont, e_xfl, slotX_0, slotX_s, xs, oneD_1]
  exact ⟨by decide, len63 (by simp), h⟩
theorem sat_wanted_14 {j : Nat} {v : D} {s : Sto} {Q : O → Sto → Prop} (h : Q (.l [v]) s) : sat (call P (j + 2) no_law_wanted [.int ((14 : Nat) : Int), v] s) Q := by
  refine sat_call (m := ⟨2, 3, b_law_wanted⟩) (δ := [_, _, none]) rfl rfl rfl ?_
  simp only [b_law_wanted]
  rw [w_cons, w_try, w_cons, w_cx]
  simp only [sat_ok, e_int, e_str, e_non, e_bl, e_gc, e_var, e_bin, e_neg, e_cmp, e_chain, e_and, e_or, e_not, e_ife, e_tup, e_idx, e_cutS, e_fz, frz_v, frz_l, e_peek, e_bi, e_isi, e_dft, e_new, e_join, e_dct0, e_dct1, bi_tupL, bi_tupT, es_nil, es_cons, t_and, t_or, t_not, t_cmp, t_chain, t_val, t_yes, ta_1, ta_s, to_1, to_s, ea_1, ea_s, eo_1, eo_s, p_none, p_some, intP_int, f_lst, f_cutL, f_rev, f_cat, f_listOf, f_call, f_repE, f_lrange, i_zip, f_sorted, f_sortSet, f_sortK, c_ltT, e_newI, e_peekI, e_isiC, e_lenSet, f_meth, i_seq, i_r1, i_r2, i_r3, slot_0, slot_s, slotO_0, slotO_s, slotA_0, slotA_s, b_add, b_sub, b_mul, b_fdiv, b_mod, b_pow, c_lt, c_le, c_gt, c_ge, c_eq, c_ne, x_lst, x_tup, len_lst, len_tup, bi_abs, bi_max2, bi_min2, bi_min3, bi_max3, is_int, is_lst, tr_bl, tr_int, tr_lst, ne_int, it_lst, it_tup, om_app, dr_lst, sd_lst, sd_tup, lstD_lst, tupD_tup, lO_l, lft_some, lft_map, lft_bind, au_add, au_sub, List.set_cons_zero, List.set_cons_succ, decide_eq_true_eq, Bool.not_eq_true', Bool.false_eq_true, Bool.true_eq_false, if_true, if_false, List.map_cons, List.map_nil, p10_6, p10_9, p10_11, p10_12, p10_18]
  refine sat_raised (k := 14) (by decide) ?_
  rw [h_next (by decide)]
  rw [h_yes (by decide)]
  simp only [heldL, List.set_cons_zero, List.set_cons_succ]
  rw [w_cons]
  simp only [sat_ok, e_int, e_str, e_non, e_bl, e_gc, e_var, e_bin, e_neg, e_cmp, e_chain, e_and, e_or, e_not, e_ife, e_tup, e_idx, e_cutS, e_fz, frz_v, frz_l, e_peek, e_bi, e_isi, e_dft, e_new, e_join, e_dct0, e_dct1, bi_tupL, bi_tupT, es_nil, es_cons, t_and, t_or, t_not, t_cmp, t_chain, t_val, t_yes, ta_1, ta_s, to_1, to_s, ea_1, ea_s, eo_1, eo_s, p_none, p_some, intP_int, f_lst, f_cutL, f_rev, f_cat, f_listOf, f_call, f_repE, f_lrange, i_zip, f_sorted, f_sortSet, f_sortK, c_ltT, e_newI, e_peekI, e_isiC, e_lenSet, f_meth, i_seq, i_r1, i_r2, i_r3, slot_0, slot_s, slotO_0, slotO_s, slotA_0, slotA_s, b_add, b_sub, b_mul, b_fdiv, b_mod, b_pow, c_lt, c_le, c_gt, c_ge, c_eq, c_ne, x_lst, x_tup, len_lst, len_tup, bi_abs, bi_max2, bi_min2, bi_min3, bi_max3, is_int, is_lst, tr_bl, tr_int, tr_lst, ne_int, it_lst, it_tup, om_app, dr_lst, sd_lst, sd_tup, lstD_lst, tupD_tup, lO_l, lft_some, lft_map, lft_bind, au_add, au_sub, List.set_cons_zero, List.set_cons_succ, decide_eq_true_eq, Bool.not_eq_true', Bool.false_eq_true, Bool.true_eq_false, if_true, if_false, List.map_cons, List.map_nil, p10_6, p10_9, p10_11, p10_12, p10_18, w_nil, w_asg, w_asgO, w_asgC, w_asgT, w_par, w_aug, w_setC, w_augC, w_setO, w_augO, w_mtO, w_mtC, w_if, w_for, w_ret, w_retF, w_retV, w_retN, w_exp, w_pass, w_brk, w_cont, e_xfl, slotX_0, slotX_s, xs, oneD_1]
  exact ⟨by decide, len63 (by simp), h⟩
theorem sat_name_5 {j : Nat} {v : D} {s : Sto} {Q : O → Sto → Prop} (h : Q (.l [v]) s) : sat (call P (j + 2) no_law_name [.int ((5 : Nat) : Int), v] s) Q := by
  refine sat_call (m := ⟨2, 3, b_law_name⟩) (δ := [_, _, none]) rfl rfl rfl ?_
  simp only [b_law_name]
  rw [w_cons, w_try, w_cons, w_cx]
  simp only [sat_ok, e_int, e_str, e_non, e_bl, e_gc, e_var, e_bin, e_neg, e_cmp, e_chain, e_and, e_or, e_not, e_ife, e_tup, e_idx, e_cutS, e_fz, frz_v, frz_l, e_peek, e_bi, e_isi, e_dft, e_new, e_join, e_dct0, e_dct1, bi_tupL, bi_tupT, es_nil, es_cons, t_and, t_or, t_not, t_cmp, t_chain, t_val, t_yes, ta_1, ta_s, to_1, to_s, ea_1, ea_s, eo_1, eo_s, p_none, p_some, intP_int, f_lst, f_cutL, f_rev, f_cat, f_listOf, f_call, f_repE, f_lrange, i_zip, f_sorted, f_sortSet, f_sortK, c_ltT, e_newI, e_peekI, e_isiC, e_lenSet, f_meth, i_seq, i_r1, i_r2, i_r3, slot_0, slot_s, slotO_0, slotO_s, slotA_0, slotA_s, b_add, b_sub, b_mul, b_fdiv, b_mod, b_pow, c_lt, c_le, c_gt, c_ge, c_eq, c_ne, x_lst, x_tup, len_lst, len_tup, bi_abs, bi_max2, bi_min2, bi_min3, bi_max3, is_int, is_lst, tr_bl, tr_int, tr_lst, ne_int, it_lst, it_tup, om_app, dr_lst, sd_lst, sd_tup, lstD_lst, tupD_tup, lO_l, lft_some, lft_map, lft_bind, au_add, au_sub, List.set_cons_zero, List.set_cons_succ, decide_eq_true_eq, Bool.not_eq_true', Bool.false_eq_true, Bool.true_eq_false, if_true, if_false, List.map_cons, List.map_nil, p10_6, p10_9, p10_11, p10_12, p10_18]
  refine sat_raised (k := 5) (by decide) ?_
  rw [h_yes (by decide)]
  simp only [heldL, List.set_cons_zero, List.set_cons_succ]
  rw [w_cons]
  simp only [sat_ok, e_int, e_str, e_non, e_bl, e_gc, e_var, e_bin, e_neg, e_cmp, e_chain, e_and, e_or, e_not, e_ife, e_tup, e_idx, e_cutS, e_fz, frz_v, frz_l, e_peek, e_bi, e_isi, e_dft, e_new, e_join, e_dct0, e_dct1, bi_tupL, bi_tupT, es_nil, es_cons, t_and, t_or, t_not, t_cmp, t_chain, t_val, t_yes, ta_1, ta_s, to_1, to_s, ea_1, ea_s, eo_1, eo_s, p_none, p_some, intP_int, f_lst, f_cutL, f_rev, f_cat, f_listOf, f_call, f_repE, f_lrange, i_zip, f_sorted, f_sortSet, f_sortK, c_ltT, e_newI, e_peekI, e_isiC, e_lenSet, f_meth, i_seq, i_r1, i_r2, i_r3, slot_0, slot_s, slotO_0, slotO_s, slotA_0, slotA_s, b_add, b_sub, b_mul, b_fdiv, b_mod, b_pow, c_lt, c_le, c_gt, c_ge, c_eq, c_ne, x_lst, x_tup, len_lst, len_tup, bi_abs, bi_max2, bi_min2, bi_min3, bi_max3, is_int, is_lst, tr_bl, tr_int, tr_lst, ne_int, it_lst, it_tup, om_app, dr_lst, sd_lst, sd_tup, lstD_lst, tupD_tup, lO_l, lft_some, lft_map, lft_bind, au_add, au_sub, List.set_cons_zero, List.set_cons_succ, decide_eq_true_eq, Bool.not_eq_true', Bool.false_eq_true, Bool.true_eq_false, if_true, if_false, List.map_cons, List.map_nil, p10_6, p10_9, p10_11, p10_12, p10_18, w_nil, w_asg, w_asgO, w_asgC, w_asgT, w_par, w_aug, w_setC, w_augC, w_setO, w_augO, w_mtO, w_mtC, w_if, w_for, w_ret, w_retF, w_retV, w_retN, w_exp, w_pass, w_brk, w_cont, e_xfl, slotX_0, slotX_s, xs, oneD_1]
  exact ⟨by decide, len63 (by simp), h⟩
theorem sat_name_6 {j : Nat} {v : D} {s : Sto} {Q : O → Sto → Prop} (h : Q (.l [v]) s) : sat (call P (j + 2) no_law_name [.int ((6 : Nat) : Int), v] s) Q := by
  refine sat_call (m := ⟨2, 3, b_law_name⟩) (δ := [_, _, none]) rfl rfl rfl ?_
  simp only [b_law_name]
  rw [w_cons, w_try, w_cons, w_cx]
  simp only [sat_ok, e_int, e_str, e_non, e_bl, e_gc, e_var, e_bin, e_neg, e_cmp, e_chain, e_and, e_or, e_not, e_ife, e_tup, e_idx, e_cutS, e_fz, frz_v, frz_l, e_peek, e_bi, e_isi, e_dft, e_new, e_join, e_dct0, e_dct1, bi_tupL, bi_tupT, es_nil, es_cons, t_and, t_or, t_not, t_cmp, t_chain, t_val, t_yes, ta_1, ta_s, to_1, to_s, ea_1, ea_s, eo_1, eo_s, p_none, p_some, intP_int, f_lst, f_cutL, f_rev, f_cat, f_listOf, f_call, f_repE, f_lrange, i_zip, f_sorted, f_sortSet, f_sortK, c_ltT, e_newI, e_peekI, e_isiC, e_lenSet, f_meth, i_seq, i_r1, i_r2, i_r3, slot_0, slot_s, slotO_0, slotO_s, slotA_0, slotA_s, b_add, b_sub, b_mul, b_fdiv, b_mod, b_pow, c_lt, c_le, c_gt, c_ge, c_eq, c_ne, x_lst, x_tup, len_lst, len_tup, bi_abs, bi_max2, bi_min2, bi_min3, bi_max3, is_int, is_lst, tr_bl, tr_int, tr_lst, ne_int, it_lst, it_tup, om_app, dr_lst, sd_lst, sd_tup, lstD_lst, tupD_tup, lO_l, lft_some, lft_map, lft_bind, au_add, au_sub, List.set_cons_zero, List.set_cons_succ, decide_eq_true_eq, Bool.not_eq_true', Bool.false_eq_true, Bool.true_eq_false, if_true, if_false, List.map_cons, List.map_nil, p10_6, p10_9, p10_11, p10_12, p10_18]
  refine sat_raised (k := 6) (by decide) ?_
  rw [h_next (by decide)]
  rw [h_yes (by decide)]
  simp only [heldL, List.set_cons_zero, List.set_cons_succ]
  rw [w_cons]
  simp only [sat_ok, e_int, e_str, e_non, e_bl, e_gc, e_var, e_bin, e_neg, e_cmp, e_chain, e_and, e_or, e_not, e_ife, e_tup, e_idx, e_cutS, e_fz, frz_v, frz_l, e_peek, e_bi, e_isi, e_dft, e_new, e_join, e_dct0, e_dct1, bi_tupL, bi_tupT, es_nil, es_cons, t_and, t_or, t_not, t_cmp, t_chain, t_val, t_yes, ta_1, ta_s, to_1, to_s, ea_1, ea_s, eo_1, eo_s, p_none, p_some, intP_int, f_lst, f_cutL, f_rev, f_cat, f_listOf, f_call, f_repE, f_lrange, i_zip, f_sorted, f_sortSet, f_sortK, c_ltT, e_newI, e_peekI, e_isiC, e_lenSet, f_meth, i_seq, i_r1, i_r2, i_r3, slot_0, slot_s, slotO_0, slotO_s, slotA_0, slotA_s, b_add, b_sub, b_mul, b_fdiv, b_mod, b_pow, c_lt, c_le, c_gt, c_ge, c_eq, c_ne, x_lst, x_tup, len_lst, len_tup, bi_abs, bi_max2, bi_min2, bi_min3, bi_max3, is_int, is_lst, tr_bl, tr_int, tr_lst, ne_int, it_lst, it_tup, om_app, dr_lst, sd_lst, sd_tup, lstD_lst, tupD_tup, lO_l, lft_some, lft_map, lft_bind, au_add, au_sub, List.set_cons_zero, List.set_cons_succ, decide_eq_true_eq, Bool.not_eq_true', Bool.false_eq_true, Bool.true_eq_false, if_true, if_false, List.map_cons, List.map_nil, p10_6, p10_9, p10_11, p10_12, p10_18, w_nil, w_asg, w_asgO, w_asgC, w_asgT, w_par, w_aug, w_setC, w_augC, w_setO, w_augO, w_mtO, w_mtC, w_if, w_for, w_ret, w_retF, w_retV, w_retN, w_exp, w_pass, w_brk, w_cont, e_xfl, slotX_0, slotX_s, xs, oneD_1]
  exact ⟨by decide, len63 (by simp), h⟩
theorem sat_name_7 {j : Nat} {v : D} {s : Sto} {Q : O → Sto → Prop} (h : Q (.l [v]) s) : sat (call P (j + 2) no_law_name [.int ((7 : Nat) : Int), v] s) Q := by
  refine sat_call (m := ⟨2, 3, b_law_name⟩) (δ := [_, _, none]) rfl rfl rfl ?_
  simp only [b_law_name]
  rw [w_cons, w_try, w_cons, w_cx]
  simp only [sat_ok, e_int, e_str, e_non, e_bl, e_gc, e_var, e_bin, e_neg, e_cmp, e_chain, e_and, e_or, e_not, e_ife, e_tup, e_idx, e_cutS, e_fz, frz_v, frz_l, e_peek, e_bi, e_isi, e_dft, e_new, e_join, e_dct0, e_dct1, bi_tupL, bi_tupT, es_nil, es_cons, t_and, t_or, t_not, t_cmp, t_chain, t_val, t_yes, ta_1, ta_s, to_1, to_s, ea_1, ea_s, eo_1, eo_s, p_none, p_some, intP_int, f_lst, f_cutL, f_rev, f_cat, f_listOf, f_call, f_repE, f_lrange, i_zip, f_sorted, f_sortSet, f_sortK, c_ltT, e_newI, e_peekI, e_isiC, e_lenSet, f_meth, i_seq, i_r1, i_r2, i_r3, slot_0, slot_s, slotO_0, slotO_s, slotA_0, slotA_s, b_add, b_sub, b_mul, b_fdiv, b_mod, b_pow, c_lt, c_le, c_gt, c_ge, c_eq, c_ne, x_lst, x_tup, len_lst, len_tup, bi_abs, bi_max2, bi_min2, bi_min3, bi_max3, is_int, is_lst, tr_bl, tr_int, tr_lst, ne_int, it_lst, it_tup, om_app, dr_lst, sd_lst, sd_tup, lstD_lst, tupD_tup, lO_l, lft_some, lft_map, lft_bind, au_add, au_sub, List.set_cons_zero, List.set_cons_succ, decide_eq_true_eq, Bool.not_eq_true', Bool.false_eq_true, Bool.true_eq_false, if_true, if_false, List.map_cons, List.map_nil, p10_6, p10_9, p10_11, p10_12, p10_18]
  refine sat_raised (k := 7) (by decide) ?_
  rw [h_next (by decide)]
  rw [h_next (by decide)]
  rw [h_yes (by decide)]
  simp only [heldL, List.set_cons_zero, List.set_cons_succ]
  rw [w_cons]
  simp only [sat_ok, e_int, e_str, e_non, e_bl, e_gc, e_var, e_bin, e_neg, e_cmp, e_chain, e_and, e_or, e_not, e_ife, e_tup, e_idx, e_cutS, e_fz, frz_v, frz_l, e_peek, e_bi, e_isi, e_dft, e_new, e_join, e_dct0, e_dct1, bi_tupL, bi_tupT, es_nil, es_cons, t_and, t_or, t_not, t_cmp, t_chain, t_val, t_yes, ta_1, ta_s, to_1, to_s, ea_1, ea_s, eo_1, eo_s, p_none, p_some, intP_int, f_lst, f_cutL, f_rev, f_cat, f_listOf, f_call, f_repE, f_lrange, i_zip, f_sorted, f_sortSet, f_sortK, c_ltT, e_newI, e_peekI, e_isiC, e_lenSet, f_meth, i_seq, i_r1, i_r2, i_r3, slot_0, slot_s, slotO_0, slotO_s, slotA_0, slotA_s, b_add, b_sub, b_mul, b_fdiv, b_mod, b_pow, c_lt, c_le, c_gt, c_ge, c_eq, c_ne, x_lst, x_tup, len_lst, len_tup, bi_abs, bi_max2, bi_min2, bi_min3, bi_max3, is_int, is_lst, tr_bl, tr_int, tr_lst, ne_int, it_lst, it_tup, om_app, dr_lst, sd_lst, sd_tup, lstD_lst, tupD_tup, lO_l, lft_some, lft_map, lft_bind, au_add, au_sub, List.set_cons_zero, List.set_cons_succ, decide_eq_true_eq, Bool.not_eq_true', Bool.false_eq_true, Bool.true_eq_false, if_true, if_false, List.map_cons, List.map_nil, p10_6, p10_9, p10_11, p10_12, p10_18, w_nil, w_asg, w_asgO, w_asgC, w_asgT, w_par, w_aug, w_setC, w_augC, w_setO, w_augO, w_mtO, w_mtC, w_if, w_for, w_ret, w_retF, w_retV, w_retN, w_exp, w_pass, w_brk, w_cont, e_xfl, slotX_0, slotX_s, xs, oneD_1]
  exact ⟨by decide, len63 (by simp), h⟩
theorem sat_is_int {i : Int} {j : Nat} {s : Sto} {Q : O → Sto → Prop} (h : Q (.v (.bl true)) s) : sat (call P (j + 1) no_law_is [.int i, .int i] s) Q := by
  refine sat_call (m := ⟨2, 2, b_law_is⟩) (δ := [_, _]) rfl rfl rfl ?_
  simp only [b_law_is]
  rw [w_cons]
  refine w_ifF (by simp only [sat_ok, e_int, e_str, e_non, e_bl, e_gc, e_var, e_bin, e_neg, e_cmp, e_chain, e_and, e_or, e_not, e_ife, e_tup, e_idx, e_cutS, e_fz, frz_v, frz_l, e_peek, e_bi, e_isi, e_dft, e_new, e_join, e_dct0, e_dct1, bi_tupL, bi_tupT, es_nil, es_cons, t_and, t_or, t_not, t_cmp, t_chain, t_val, t_yes, ta_1, ta_s, to_1, to_s, ea_1, ea_s, eo_1, eo_s, p_none, p_some, intP_int, f_lst, f_cutL, f_rev, f_cat, f_listOf, f_call, f_repE, f_lrange, i_zip, f_sorted, f_sortSet, f_sortK, c_ltT, e_newI, e_peekI, e_isiC, e_lenSet, f_meth, i_seq, i_r1, i_r2, i_r3, slot_0, slot_s, slotO_0, slotO_s, slotA_0, slotA_s, b_add, b_sub, b_mul, b_fdiv, b_mod, b_pow, c_lt, c_le, c_gt, c_ge, c_eq, c_ne, x_lst, x_tup, len_lst, len_tup, bi_abs, bi_max2, bi_min2, bi_min3, bi_max3, is_int, is_lst, tr_bl, tr_int, tr_lst, ne_int, it_lst, it_tup, om_app, dr_lst, sd_lst, sd_tup, lstD_lst, tupD_tup, lO_l, lft_some, lft_map, lft_bind, au_add, au_sub, List.set_cons_zero, List.set_cons_succ, decide_eq_true_eq, Bool.not_eq_true', Bool.false_eq_true, Bool.true_eq_false, if_true, if_false, List.map_cons, List.map_nil, p10_6, p10_9, p10_11, p10_12, p10_18]; (first | exact ⟨rfl, rfl⟩ | exact ⟨rfl, trivial⟩ | exact ⟨trivial, rfl⟩ | exact ⟨trivial, trivial⟩ | trivial)) ?_
  (rw [w_nil]; dsimp only; rw [w_cons])
  simp only [sat_ok, e_int, e_str, e_non, e_bl, e_gc, e_var, e_bin, e_neg, e_cmp, e_chain, e_and, e_or, e_not, e_ife, e_tup, e_idx, e_cutS, e_fz, frz_v, frz_l, e_peek, e_bi, e_isi, e_dft, e_new, e_join, e_dct0, e_dct1, bi_tupL, bi_tupT, es_nil, es_cons, t_and, t_or, t_not, t_cmp, t_chain, t_val, t_yes, ta_1, ta_s, to_1, to_s, ea_1, ea_s, eo_1, eo_s, p_none, p_some, intP_int, f_lst, f_cutL, f_rev, f_cat, f_listOf, f_call, f_repE, f_lrange, i_zip, f_sorted, f_sortSet, f_sortK, c_ltT, e_newI, e_peekI, e_isiC, e_lenSet, f_meth, i_seq, i_r1, i_r2, i_r3, slot_0, slot_s, slotO_0, slotO_s, slotA_0, slotA_s, b_add, b_sub, b_mul, b_fdiv, b_mod, b_pow, c_lt, c_le, c_gt, c_ge, c_eq, c_ne, x_lst, x_tup, len_lst, len_tup, bi_abs, bi_max2, bi_min2, bi_min3, bi_max3, is_int, is_lst, tr_bl, tr_int, tr_lst, ne_int, it_lst, it_tup, om_app, dr_lst, sd_lst, sd_tup, lstD_lst, tupD_tup, lO_l, lft_some, lft_map, lft_bind, au_add, au_sub, List.set_cons_zero, List.set_cons_succ, decide_eq_true_eq, Bool.not_eq_true', Bool.false_eq_true, Bool.true_eq_false, if_true, if_false, List.map_cons, List.map_nil, p10_6, p10_9, p10_11, p10_12, p10_18, w_nil, w_asg, w_asgO, w_asgC, w_asgT, w_par, w_aug, w_setC, w_augC, w_setO, w_augO, w_mtO, w_mtC, w_if, w_for, w_ret, w_retF, w_retV, w_retN, w_exp, w_pass, w_brk, w_cont]
  exact h
theorem sat_is_str {z : List Nat} {j : Nat} {s : Sto} {Q : O → Sto → Prop} (h : Q (.v (.bl true)) s) : sat (call P (j + 1) no_law_is [.str z, .str z] s) Q := by
  refine sat_call (m := ⟨2, 2, b_law_is⟩) (δ := [_, _]) rfl rfl rfl ?_
  simp only [b_law_is]
  rw [w_cons]
  refine w_ifB true (by simp only [sat_ok, e_int, e_str, e_non, e_bl, e_gc, e_var, e_bin, e_neg, e_cmp, e_chain, e_and, e_or, e_not, e_ife, e_tup, e_idx, e_cutS, e_fz, frz_v, frz_l, e_peek, e_bi, e_isi, e_dft, e_new, e_join, e_dct0, e_dct1, bi_tupL, bi_tupT, es_nil, es_cons, t_and, t_or, t_not, t_cmp, t_chain, t_val, t_yes, ta_1, ta_s, to_1, to_s, ea_1, ea_s, eo_1, eo_s, p_none, p_some, intP_int, f_lst, f_cutL, f_rev, f_cat, f_listOf, f_call, f_repE, f_lrange, i_zip, f_sorted, f_sortSet, f_sortK, c_ltT, e_newI, e_peekI, e_isiC, e_lenSet, f_meth, i_seq, i_r1, i_r2, i_r3, slot_0, slot_s, slotO_0, slotO_s, slotA_0, slotA_s, b_add, b_sub, b_mul, b_fdiv, b_mod, b_pow, c_lt, c_le, c_gt, c_ge, c_eq, c_ne, x_lst, x_tup, len_lst, len_tup, bi_abs, bi_max2, bi_min2, bi_min3, bi_max3, is_int, is_lst, tr_bl, tr_int, tr_lst, ne_int, it_lst, it_tup, om_app, dr_lst, sd_lst, sd_tup, lstD_lst, tupD_tup, lO_l, lft_some, lft_map, lft_bind, au_add, au_sub, List.set_cons_zero, List.set_cons_succ, decide_eq_true_eq, Bool.not_eq_true', Bool.false_eq_true, Bool.true_eq_false, if_true, if_false, List.map_cons, List.map_nil, p10_6, p10_9, p10_11, p10_12, p10_18, is_str']; (first | exact ⟨rfl, rfl⟩ | exact ⟨rfl, trivial⟩ | exact ⟨trivial, rfl⟩ | exact ⟨trivial, trivial⟩ | trivial)) (fun _ => ?_) fun z => nomatch z
  rw [w_cons]
  simp only [sat_ok, e_int, e_str, e_non, e_bl, e_gc, e_var, e_bin, e_neg, e_cmp, e_chain, e_and, e_or, e_not, e_ife, e_tup, e_idx, e_cutS, e_fz, frz_v, frz_l, e_peek, e_bi, e_isi, e_dft, e_new, e_join, e_dct0, e_dct1, bi_tupL, bi_tupT, es_nil, es_cons, t_and, t_or, t_not, t_cmp, t_chain, t_val, t_yes, ta_1, ta_s, to_1, to_s, ea_1, ea_s, eo_1, eo_s, p_none, p_some, intP_int, f_lst, f_cutL, f_rev, f_cat, f_listOf, f_call, f_repE, f_lrange, i_zip, f_sorted, f_sortSet, f_sortK, c_ltT, e_newI, e_peekI, e_isiC, e_lenSet, f_meth, i_seq, i_r1, i_r2, i_r3, slot_0, slot_s, slotO_0, slotO_s, slotA_0, slotA_s, b_add, b_sub, b_mul, b_fdiv, b_mod, b_pow, c_lt, c_le, c_gt, c_ge, c_eq, c_ne, x_lst, x_tup, len_lst, len_tup, bi_abs, bi_max2, bi_min2, bi_min3, bi_max3, is_int, is_lst, tr_bl, tr_int, tr_lst, ne_int, it_lst, it_tup, om_app, dr_lst, sd_lst, sd_tup, lstD_lst, tupD_tup, lO_l, lft_some, lft_map, lft_bind, au_add, au_sub, List.set_cons_zero, List.set_cons_succ, decide_eq_true_eq, Bool.not_eq_true', Bool.false_eq_true, Bool.true_eq_false, if_true, if_false, List.map_cons, List.map_nil, p10_6, p10_9, p10_11, p10_12, p10_18, w_nil, w_asg, w_asgO, w_asgC, w_asgT, w_par, w_aug, w_setC, w_augC, w_setO, w_augO, w_mtO, w_mtC, w_if, w_for, w_ret, w_retF, w_retV, w_retN, w_exp, w_pass, w_brk, w_cont, is_str', c_eqS]
  exact h
theorem eqv_bls : ∀ bs : List Bool, D.eqvL (bs.map .bl) (bs.map .bl) = true
  | [] => rfl
  | b :: bs => by simp only [List.map_cons, D.eqvL, D.eqv, eqv_bls bs, decide_true, Bool.and_self]
theorem plain_bls : ∀ bs : List Bool, D.plainL (bs.map .bl) = true
  | [] => rfl
  | b :: bs => by simp only [List.map_cons, D.plainL, D.plain, plain_bls bs, Bool.and_self]
theorem dep_bls : ∀ bs : List Bool, D.depL (bs.map .bl) = 0
  | [] => rfl
  | b :: bs => by simp only [List.map_cons, D.depL, D.dep, dep_bls bs]; rfl
theorem c_neBls {bs : List Bool} {s : Sto} {Q : Bool → Prop} : lft (cmpD .ne s (.lst (bs.map .bl)) (.lst (bs.map .bl))) Q = Q false := by
  show lft ((eqD s (.lst (bs.map .bl)) (.lst (bs.map .bl))).map not) Q = _
  unfold eqD
  rw [if_pos ⟨by simp only [deref, D.plain, plain_bls], by simp only [deref, D.plain, plain_bls], by simp only [deref, D.dep, dep_bls]; decide⟩]
  simp only [deref, D.eqv, eqv_bls]
  rfl
def kbs (k : Nat) : List Bool := (List.range 15).map (fun i => decide (i = k)) ++ [true]
theorem kinds_eq : ∀ k, k < 15 → kinds k = (kbs k).map .bl := by
  intro k hk
  have : ∀ k, k < 15 → ([decide (k = 0), decide (k = 1), decide (k = 2), decide (k = 3), decide (k = 4), decide (k = 5), decide (k = 6), decide (k = 7), decide (k = 8), decide (k = 9), decide (k = 10), decide (k = 11), decide (k = 12), decide (k = 13), decide (k = 14), true] : List Bool) = kbs k := by decide
  rw [← this k hk]
  rfl
theorem p10_60 : (10 : Int) ^ ((60 : Int).toNat) = 10 ^ 60 := rfl
theorem sat_tail {i : Nat} (hi : i < 15) {ns : List Int} {h : Nat} {z : List Nat} {num : Int} {z5 z6 z7 : Option O} {s : Sto} {b : Nat} {F : En} (hh : Hand s h b)
    (q : ∀ z5 z6 z7, F.nx s [some (.v (.lst (intL ns))), some (.v (.ref h)), some (.v (.int (i : Int))), some (.v (.str z)), some (.v (.int num)), z5, z6, z7]) :
    wp (execs (call P 9) P.N (MSs.dr (MS.bd (MSs.at b_law 1)) 3) s [some (.v (.lst (intL ns))), some (.v (.ref h)), some (.v (.int (i : Int))), some (.v (.str z)), some (.v (.int num)), z5, z6, z7]) F := by
  simp only [b_law, MSs.at, MSs.dr, MS.bd]
  rw [w_cons]
  refine w_ifF ?_ ?_
  · simp only [sat_ok, e_int, e_str, e_non, e_bl, e_gc, e_var, e_bin, e_neg, e_cmp, e_chain, e_and, e_or, e_not, e_ife, e_tup, e_idx, e_cutS, e_fz, frz_v, frz_l, e_peek, e_bi, e_isi, e_dft, e_new, e_join, e_dct0, e_dct1, bi_tupL, bi_tupT, es_nil, es_cons, t_and, t_or, t_not, t_cmp, t_chain, t_val, t_yes, ta_1, ta_s, to_1, to_s, ea_1, ea_s, eo_1, eo_s, p_none, p_some, intP_int, f_lst, f_cutL, f_rev, f_cat, f_listOf, f_call, f_repE, f_lrange, i_zip, f_sorted, f_sortSet, f_sortK, c_ltT, e_newI, e_peekI, e_isiC, e_lenSet, f_meth, i_seq, i_r1, i_r2, i_r3, slot_0, slot_s, slotO_0, slotO_s, slotA_0, slotA_s, b_add, b_sub, b_mul, b_fdiv, b_mod, b_pow, c_lt, c_le, c_gt, c_ge, c_eq, c_ne, x_lst, x_tup, len_lst, len_tup, bi_abs, bi_max2, bi_min2, bi_min3, bi_max3, is_int, is_lst, tr_bl, tr_int, tr_lst, ne_int, it_lst, it_tup, om_app, dr_lst, sd_lst, sd_tup, lstD_lst, tupD_tup, lO_l, lft_some, lft_map, lft_bind, au_add, au_sub, List.set_cons_zero, List.set_cons_succ, decide_eq_true_eq, Bool.not_eq_true', Bool.false_eq_true, Bool.true_eq_false, if_true, if_false, List.map_cons, List.map_nil, p10_6, p10_9, p10_11, p10_12, p10_18]
    refine sat_kinds hi ?_
    simp only [frz_l, f_comp, i_r1, intP_int, lft_some, e_int]
    refine ⟨⟨by decide, by decide⟩, len63 (by simp [upFrom]), ?_⟩
    refine sat_comp (by exact trivial) (fun d => match d with | .int x => some (.bl (decide (x = (i : Int)))) | _ => none) (fun x hx => ?_) ?_
    · obtain ⟨y, hy, rfl⟩ : ∃ y : Nat, y < 15 ∧ x = .int (0 + (y : Int)) := by
        simp only [upFrom, List.mem_map, List.mem_range] at hx
        obtain ⟨y, hy, rfl⟩ := hx
        exact ⟨y, by simpa using hy, rfl⟩
      simp only [turnP, bindT, wipeL, sat_ok, e_int, e_str, e_non, e_bl, e_gc, e_var, e_bin, e_neg, e_cmp, e_chain, e_and, e_or, e_not, e_ife, e_tup, e_idx, e_cutS, e_fz, frz_v, frz_l, e_peek, e_bi, e_isi, e_dft, e_new, e_join, e_dct0, e_dct1, bi_tupL, bi_tupT, es_nil, es_cons, t_and, t_or, t_not, t_cmp, t_chain, t_val, t_yes, ta_1, ta_s, to_1, to_s, ea_1, ea_s, eo_1, eo_s, p_none, p_some, intP_int, f_lst, f_cutL, f_rev, f_cat, f_listOf, f_call, f_repE, f_lrange, i_zip, f_sorted, f_sortSet, f_sortK, c_ltT, e_newI, e_peekI, e_isiC, e_lenSet, f_meth, i_seq, i_r1, i_r2, i_r3, slot_0, slot_s, slotO_0, slotO_s, slotA_0, slotA_s, b_add, b_sub, b_mul, b_fdiv, b_mod, b_pow, c_lt, c_le, c_gt, c_ge, c_eq, c_ne, x_lst, x_tup, len_lst, len_tup, bi_abs, bi_max2, bi_min2, bi_min3, bi_max3, is_int, is_lst, tr_bl, tr_int, tr_lst, ne_int, it_lst, it_tup, om_app, dr_lst, sd_lst, sd_tup, lstD_lst, tupD_tup, lO_l, lft_some, lft_map, lft_bind, au_add, au_sub, List.set_cons_zero, List.set_cons_succ, decide_eq_true_eq, Bool.not_eq_true', Bool.false_eq_true, Bool.true_eq_false, if_true, if_false, List.map_cons, List.map_nil, p10_6, p10_9, p10_11, p10_12, p10_18, sat_bind, sat_ite]
      first | exact ⟨rfl, rfl⟩ | exact ⟨trivial, trivial⟩ | trivial
    · have e : ((upFrom 0 (Int.toNat 15)).filterMap (fun d => match d with | D.int x => some (D.bl (decide (x = (i : Int)))) | _ => none)) ++ [D.bl true] = (kbs i).map .bl := by
        have : ∀ i : Nat, i < 15 → ((upFrom 0 (Int.toNat 15)).filterMap (fun d => match d with | D.int x => some (D.bl (decide (x = (i : Int)))) | _ => none)) ++ [D.bl true] = (kbs i).map .bl := fun i hi =>
          match i, hi with
          | 0, _ => rfl
          | 1, _ => rfl
          | 2, _ => rfl
          | 3, _ => rfl
          | 4, _ => rfl
          | 5, _ => rfl
          | 6, _ => rfl
          | 7, _ => rfl
          | 8, _ => rfl
          | 9, _ => rfl
          | 10, _ => rfl
          | 11, _ => rfl
          | 12, _ => rfl
          | 13, _ => rfl
          | 14, _ => rfl
          | n + 15, h => absurd h (by omega)
        exact this i hi
      simp only [frz_l, sat_ok, e_int, e_str, e_non, e_bl, e_gc, e_var, e_bin, e_neg, e_cmp, e_chain, e_and, e_or, e_not, e_ife, e_tup, e_idx, e_cutS, e_fz, frz_v, frz_l, e_peek, e_bi, e_isi, e_dft, e_new, e_join, e_dct0, e_dct1, bi_tupL, bi_tupT, es_nil, es_cons, t_and, t_or, t_not, t_cmp, t_chain, t_val, t_yes, ta_1, ta_s, to_1, to_s, ea_1, ea_s, eo_1, eo_s, p_none, p_some, intP_int, f_lst, f_cutL, f_rev, f_cat, f_listOf, f_call, f_repE, f_lrange, i_zip, f_sorted, f_sortSet, f_sortK, c_ltT, e_newI, e_peekI, e_isiC, e_lenSet, f_meth, i_seq, i_r1, i_r2, i_r3, slot_0, slot_s, slotO_0, slotO_s, slotA_0, slotA_s, b_add, b_sub, b_mul, b_fdiv, b_mod, b_pow, c_lt, c_le, c_gt, c_ge, c_eq, c_ne, x_lst, x_tup, len_lst, len_tup, bi_abs, bi_max2, bi_min2, bi_min3, bi_max3, is_int, is_lst, tr_bl, tr_int, tr_lst, ne_int, it_lst, it_tup, om_app, dr_lst, sd_lst, sd_tup, lstD_lst, tupD_tup, lO_l, lft_some, lft_map, lft_bind, au_add, au_sub, List.set_cons_zero, List.set_cons_succ, decide_eq_true_eq, Bool.not_eq_true', Bool.false_eq_true, Bool.true_eq_false, if_true, if_false, List.map_cons, List.map_nil, p10_6, p10_9, p10_11, p10_12, p10_18]
      have el := congrArg List.length e
      rw [List.length_append] at el
      refine ⟨len63 (by simp), by rw [el]; exact len63 (by simp [kbs]), ?_⟩
      rw [e, kinds_eq i hi, c_neBls]
      (first | exact ⟨rfl, rfl⟩ | exact ⟨rfl, trivial⟩ | exact ⟨trivial, rfl⟩ | exact ⟨trivial, trivial⟩ | trivial)
  · (rw [w_nil]; dsimp only; rw [w_cons])
    simp only [sat_ok, e_int, e_str, e_non, e_bl, e_gc, e_var, e_bin, e_neg, e_cmp, e_chain, e_and, e_or, e_not, e_ife, e_tup, e_idx, e_cutS, e_fz, frz_v, frz_l, e_peek, e_bi, e_isi, e_dft, e_new, e_join, e_dct0, e_dct1, bi_tupL, bi_tupT, es_nil, es_cons, t_and, t_or, t_not, t_cmp, t_chain, t_val, t_yes, ta_1, ta_s, to_1, to_s, ea_1, ea_s, eo_1, eo_s, p_none, p_some, intP_int, f_lst, f_cutL, f_rev, f_cat, f_listOf, f_call, f_repE, f_lrange, i_zip, f_sorted, f_sortSet, f_sortK, c_ltT, e_newI, e_peekI, e_isiC, e_lenSet, f_meth, i_seq, i_r1, i_r2, i_r3, slot_0, slot_s, slotO_0, slotO_s, slotA_0, slotA_s, b_add, b_sub, b_mul, b_fdiv, b_mod, b_pow, c_lt, c_le, c_gt, c_ge, c_eq, c_ne, x_lst, x_tup, len_lst, len_tup, bi_abs, bi_max2, bi_min2, bi_min3, bi_max3, is_int, is_lst, tr_bl, tr_int, tr_lst, ne_int, it_lst, it_tup, om_app, dr_lst, sd_lst, sd_tup, lstD_lst, tupD_tup, lO_l, lft_some, lft_map, lft_bind, au_add, au_sub, List.set_cons_zero, List.set_cons_succ, decide_eq_true_eq, Bool.not_eq_true', Bool.false_eq_true, Bool.true_eq_false, if_true, if_false, List.map_cons, List.map_nil, p10_6, p10_9, p10_11, p10_12, p10_18, w_nil, w_asg, w_asgO, w_asgC, w_asgT, w_par, w_aug, w_setC, w_augC, w_setO, w_augO, w_mtO, w_mtC, w_if, w_for, w_ret, w_retF, w_retV, w_retN, w_exp, w_pass, w_brk, w_cont]
    refine ⟨len63 (by simp), ?_⟩
    rw [w_cons]
    simp only [sat_ok, e_int, e_str, e_non, e_bl, e_gc, e_var, e_bin, e_neg, e_cmp, e_chain, e_and, e_or, e_not, e_ife, e_tup, e_idx, e_cutS, e_fz, frz_v, frz_l, e_peek, e_bi, e_isi, e_dft, e_new, e_join, e_dct0, e_dct1, bi_tupL, bi_tupT, es_nil, es_cons, t_and, t_or, t_not, t_cmp, t_chain, t_val, t_yes, ta_1, ta_s, to_1, to_s, ea_1, ea_s, eo_1, eo_s, p_none, p_some, intP_int, f_lst, f_cutL, f_rev, f_cat, f_listOf, f_call, f_repE, f_lrange, i_zip, f_sorted, f_sortSet, f_sortK, c_ltT, e_newI, e_peekI, e_isiC, e_lenSet, f_meth, i_seq, i_r1, i_r2, i_r3, slot_0, slot_s, slotO_0, slotO_s, slotA_0, slotA_s, b_add, b_sub, b_mul, b_fdiv, b_mod, b_pow, c_lt, c_le, c_gt, c_ge, c_eq, c_ne, x_lst, x_tup, len_lst, len_tup, bi_abs, bi_max2, bi_min2, bi_min3, bi_max3, is_int, is_lst, tr_bl, tr_int, tr_lst, ne_int, it_lst, it_tup, om_app, dr_lst, sd_lst, sd_tup, lstD_lst, tupD_tup, lO_l, lft_some, lft_map, lft_bind, au_add, au_sub, List.set_cons_zero, List.set_cons_succ, decide_eq_true_eq, Bool.not_eq_true', Bool.false_eq_true, Bool.true_eq_false, if_true, if_false, List.map_cons, List.map_nil, p10_6, p10_9, p10_11, p10_12, p10_18, w_nil, w_asg, w_asgO, w_asgC, w_asgT, w_par, w_aug, w_setC, w_augC, w_setO, w_augO, w_mtO, w_mtC, w_if, w_for, w_ret, w_retF, w_retV, w_retN, w_exp, w_pass, w_brk, w_cont]
    rw [w_cons]
    -- the last question
    have last : ∀ (d v : D) (s' : Sto) (z7 : Option O), (∀ (s : Sto) (Q : O → Sto → Prop), Q (.v (.bl true)) s → sat (call P 9 no_law_is [d, v] s) Q) → s' = s →
        wp (execs (call P 9) P.N (MSs.dr (MS.bd (MSs.at b_law 1)) 7) s' [some (.v (.lst (intL ns))), some (.v (.ref h)), some (.v (.int (i : Int))), some (.v (.str z)), some (.v (.int num)), some (.v (.lst [d])), some (.v v), z7]) F := fun d v s' z7 hd hs => by
      subst hs
      simp only [b_law, MSs.at, MSs.dr, MS.bd]
      rw [w_cons]
      refine w_ifF ?_ ?_
      · simp only [sat_ok, e_int, e_str, e_non, e_bl, e_gc, e_var, e_bin, e_neg, e_cmp, e_chain, e_and, e_or, e_not, e_ife, e_tup, e_idx, e_cutS, e_fz, frz_v, frz_l, e_peek, e_bi, e_isi, e_dft, e_new, e_join, e_dct0, e_dct1, bi_tupL, bi_tupT, es_nil, es_cons, t_and, t_or, t_not, t_cmp, t_chain, t_val, t_yes, ta_1, ta_s, to_1, to_s, ea_1, ea_s, eo_1, eo_s, p_none, p_some, intP_int, f_lst, f_cutL, f_rev, f_cat, f_listOf, f_call, f_repE, f_lrange, i_zip, f_sorted, f_sortSet, f_sortK, c_ltT, e_newI, e_peekI, e_isiC, e_lenSet, f_meth, i_seq, i_r1, i_r2, i_r3, slot_0, slot_s, slotO_0, slotO_s, slotA_0, slotA_s, b_add, b_sub, b_mul, b_fdiv, b_mod, b_pow, c_lt, c_le, c_gt, c_ge, c_eq, c_ne, x_lst, x_tup, len_lst, len_tup, bi_abs, bi_max2, bi_min2, bi_min3, bi_max3, is_int, is_lst, tr_bl, tr_int, tr_lst, ne_int, it_lst, it_tup, om_app, dr_lst, sd_lst, sd_tup, lstD_lst, tupD_tup, lO_l, lft_some, lft_map, lft_bind, au_add, au_sub, List.set_cons_zero, List.set_cons_succ, decide_eq_true_eq, Bool.not_eq_true', Bool.false_eq_true, Bool.true_eq_false, if_true, if_false, List.map_cons, List.map_nil, p10_6, p10_9, p10_11, p10_12, p10_18]
        refine hd _ _ ?_
        simp only [frz_v, tr_bl]
        (first | exact ⟨rfl, rfl⟩ | exact ⟨rfl, trivial⟩ | exact ⟨trivial, rfl⟩ | exact ⟨trivial, trivial⟩ | trivial)
      · rw [w_nil]
        show wp (execs (call P 9) P.N .nil _ _) F
        rw [w_nil]
        exact q _ _ _
    refine w_ifB (decide ((i : Int) ∈ [4, 11])) ?_ (fun hc => ?_) fun hc => ?_
    · simp only [sat_ok, e_int, e_str, e_non, e_bl, e_gc, e_var, e_bin, e_neg, e_cmp, e_chain, e_and, e_or, e_not, e_ife, e_tup, e_idx, e_cutS, e_fz, frz_v, frz_l, e_peek, e_bi, e_isi, e_dft, e_new, e_join, e_dct0, e_dct1, bi_tupL, bi_tupT, es_nil, es_cons, t_and, t_or, t_not, t_cmp, t_chain, t_val, t_yes, ta_1, ta_s, to_1, to_s, ea_1, ea_s, eo_1, eo_s, p_none, p_some, intP_int, f_lst, f_cutL, f_rev, f_cat, f_listOf, f_call, f_repE, f_lrange, i_zip, f_sorted, f_sortSet, f_sortK, c_ltT, e_newI, e_peekI, e_isiC, e_lenSet, f_meth, i_seq, i_r1, i_r2, i_r3, slot_0, slot_s, slotO_0, slotO_s, slotA_0, slotA_s, b_add, b_sub, b_mul, b_fdiv, b_mod, b_pow, c_lt, c_le, c_gt, c_ge, c_eq, c_ne, x_lst, x_tup, len_lst, len_tup, bi_abs, bi_max2, bi_min2, bi_min3, bi_max3, is_int, is_lst, tr_bl, tr_int, tr_lst, ne_int, it_lst, it_tup, om_app, dr_lst, sd_lst, sd_tup, lstD_lst, tupD_tup, lO_l, lft_some, lft_map, lft_bind, au_add, au_sub, List.set_cons_zero, List.set_cons_succ, decide_eq_true_eq, Bool.not_eq_true', Bool.false_eq_true, Bool.true_eq_false, if_true, if_false, List.map_cons, List.map_nil, p10_6, p10_9, p10_11, p10_12, p10_18]
      refine ⟨len63 (by simp), ?_⟩
      rw [c_in (l := [4, 11]) rfl]
      (first | exact ⟨rfl, rfl⟩ | exact ⟨rfl, trivial⟩ | exact ⟨trivial, rfl⟩ | exact ⟨trivial, trivial⟩ | trivial)
    · have hk : i = 4 ∨ i = 11 := by
        have := of_decide_eq_true hc
        simp only [List.mem_cons, List.not_mem_nil, or_false] at this
        omega
      rcases hk with rfl | rfl
      · rw [w_cons]
        simp only [sat_ok, e_int, e_str, e_non, e_bl, e_gc, e_var, e_bin, e_neg, e_cmp, e_chain, e_and, e_or, e_not, e_ife, e_tup, e_idx, e_cutS, e_fz, frz_v, frz_l, e_peek, e_bi, e_isi, e_dft, e_new, e_join, e_dct0, e_dct1, bi_tupL, bi_tupT, es_nil, es_cons, t_and, t_or, t_not, t_cmp, t_chain, t_val, t_yes, ta_1, ta_s, to_1, to_s, ea_1, ea_s, eo_1, eo_s, p_none, p_some, intP_int, f_lst, f_cutL, f_rev, f_cat, f_listOf, f_call, f_repE, f_lrange, i_zip, f_sorted, f_sortSet, f_sortK, c_ltT, e_newI, e_peekI, e_isiC, e_lenSet, f_meth, i_seq, i_r1, i_r2, i_r3, slot_0, slot_s, slotO_0, slotO_s, slotA_0, slotA_s, b_add, b_sub, b_mul, b_fdiv, b_mod, b_pow, c_lt, c_le, c_gt, c_ge, c_eq, c_ne, x_lst, x_tup, len_lst, len_tup, bi_abs, bi_max2, bi_min2, bi_min3, bi_max3, is_int, is_lst, tr_bl, tr_int, tr_lst, ne_int, it_lst, it_tup, om_app, dr_lst, sd_lst, sd_tup, lstD_lst, tupD_tup, lO_l, lft_some, lft_map, lft_bind, au_add, au_sub, List.set_cons_zero, List.set_cons_succ, decide_eq_true_eq, Bool.not_eq_true', Bool.false_eq_true, Bool.true_eq_false, if_true, if_false, List.map_cons, List.map_nil, p10_6, p10_9, p10_11, p10_12, p10_18, w_nil, w_asg, w_asgO, w_asgC, w_asgT, w_par, w_aug, w_setC, w_augC, w_setO, w_augO, w_mtO, w_mtC, w_if, w_for, w_ret, w_retF, w_retV, w_retN, w_exp, w_pass, w_brk, w_cont]
        refine sat_at_4 ?_
        simp only [frz_l, sat_ok, e_int, e_str, e_non, e_bl, e_gc, e_var, e_bin, e_neg, e_cmp, e_chain, e_and, e_or, e_not, e_ife, e_tup, e_idx, e_cutS, e_fz, frz_v, frz_l, e_peek, e_bi, e_isi, e_dft, e_new, e_join, e_dct0, e_dct1, bi_tupL, bi_tupT, es_nil, es_cons, t_and, t_or, t_not, t_cmp, t_chain, t_val, t_yes, ta_1, ta_s, to_1, to_s, ea_1, ea_s, eo_1, eo_s, p_none, p_some, intP_int, f_lst, f_cutL, f_rev, f_cat, f_listOf, f_call, f_repE, f_lrange, i_zip, f_sorted, f_sortSet, f_sortK, c_ltT, e_newI, e_peekI, e_isiC, e_lenSet, f_meth, i_seq, i_r1, i_r2, i_r3, slot_0, slot_s, slotO_0, slotO_s, slotA_0, slotA_s, b_add, b_sub, b_mul, b_fdiv, b_mod, b_pow, c_lt, c_le, c_gt, c_ge, c_eq, c_ne, x_lst, x_tup, len_lst, len_tup, bi_abs, bi_max2, bi_min2, bi_min3, bi_max3, is_int, is_lst, tr_bl, tr_int, tr_lst, ne_int, it_lst, it_tup, om_app, dr_lst, sd_lst, sd_tup, lstD_lst, tupD_tup, lO_l, lft_some, lft_map, lft_bind, au_add, au_sub, List.set_cons_zero, List.set_cons_succ, decide_eq_true_eq, Bool.not_eq_true', Bool.false_eq_true, Bool.true_eq_false, if_true, if_false, List.map_cons, List.map_nil, p10_6, p10_9, p10_11, p10_12, p10_18]
        exact last _ _ s _ (fun s Q h => sat_is_int h) rfl
      · rw [w_cons]
        simp only [sat_ok, e_int, e_str, e_non, e_bl, e_gc, e_var, e_bin, e_neg, e_cmp, e_chain, e_and, e_or, e_not, e_ife, e_tup, e_idx, e_cutS, e_fz, frz_v, frz_l, e_peek, e_bi, e_isi, e_dft, e_new, e_join, e_dct0, e_dct1, bi_tupL, bi_tupT, es_nil, es_cons, t_and, t_or, t_not, t_cmp, t_chain, t_val, t_yes, ta_1, ta_s, to_1, to_s, ea_1, ea_s, eo_1, eo_s, p_none, p_some, intP_int, f_lst, f_cutL, f_rev, f_cat, f_listOf, f_call, f_repE, f_lrange, i_zip, f_sorted, f_sortSet, f_sortK, c_ltT, e_newI, e_peekI, e_isiC, e_lenSet, f_meth, i_seq, i_r1, i_r2, i_r3, slot_0, slot_s, slotO_0, slotO_s, slotA_0, slotA_s, b_add, b_sub, b_mul, b_fdiv, b_mod, b_pow, c_lt, c_le, c_gt, c_ge, c_eq, c_ne, x_lst, x_tup, len_lst, len_tup, bi_abs, bi_max2, bi_min2, bi_min3, bi_max3, is_int, is_lst, tr_bl, tr_int, tr_lst, ne_int, it_lst, it_tup, om_app, dr_lst, sd_lst, sd_tup, lstD_lst, tupD_tup, lO_l, lft_some, lft_map, lft_bind, au_add, au_sub, List.set_cons_zero, List.set_cons_succ, decide_eq_true_eq, Bool.not_eq_true', Bool.false_eq_true, Bool.true_eq_false, if_true, if_false, List.map_cons, List.map_nil, p10_6, p10_9, p10_11, p10_12, p10_18, w_nil, w_asg, w_asgO, w_asgC, w_asgT, w_par, w_aug, w_setC, w_augC, w_setO, w_augO, w_mtO, w_mtC, w_if, w_for, w_ret, w_retF, w_retV, w_retN, w_exp, w_pass, w_brk, w_cont]
        refine sat_at_11 ?_
        simp only [frz_l, sat_ok, e_int, e_str, e_non, e_bl, e_gc, e_var, e_bin, e_neg, e_cmp, e_chain, e_and, e_or, e_not, e_ife, e_tup, e_idx, e_cutS, e_fz, frz_v, frz_l, e_peek, e_bi, e_isi, e_dft, e_new, e_join, e_dct0, e_dct1, bi_tupL, bi_tupT, es_nil, es_cons, t_and, t_or, t_not, t_cmp, t_chain, t_val, t_yes, ta_1, ta_s, to_1, to_s, ea_1, ea_s, eo_1, eo_s, p_none, p_some, intP_int, f_lst, f_cutL, f_rev, f_cat, f_listOf, f_call, f_repE, f_lrange, i_zip, f_sorted, f_sortSet, f_sortK, c_ltT, e_newI, e_peekI, e_isiC, e_lenSet, f_meth, i_seq, i_r1, i_r2, i_r3, slot_0, slot_s, slotO_0, slotO_s, slotA_0, slotA_s, b_add, b_sub, b_mul, b_fdiv, b_mod, b_pow, c_lt, c_le, c_gt, c_ge, c_eq, c_ne, x_lst, x_tup, len_lst, len_tup, bi_abs, bi_max2, bi_min2, bi_min3, bi_max3, is_int, is_lst, tr_bl, tr_int, tr_lst, ne_int, it_lst, it_tup, om_app, dr_lst, sd_lst, sd_tup, lstD_lst, tupD_tup, lO_l, lft_some, lft_map, lft_bind, au_add, au_sub, List.set_cons_zero, List.set_cons_succ, decide_eq_true_eq, Bool.not_eq_true', Bool.false_eq_true, Bool.true_eq_false, if_true, if_false, List.map_cons, List.map_nil, p10_6, p10_9, p10_11, p10_12, p10_18]
        exact last _ _ s _ (fun s Q h => sat_is_int h) rfl
    · rw [w_cons]
      refine w_ifB (decide ((i : Int) ∈ [8, 14])) ?_ (fun hc => ?_) fun hc2 => ?_
      · simp only [sat_ok, e_int, e_str, e_non, e_bl, e_gc, e_var, e_bin, e_neg, e_cmp, e_chain, e_and, e_or, e_not, e_ife, e_tup, e_idx, e_cutS, e_fz, frz_v, frz_l, e_peek, e_bi, e_isi, e_dft, e_new, e_join, e_dct0, e_dct1, bi_tupL, bi_tupT, es_nil, es_cons, t_and, t_or, t_not, t_cmp, t_chain, t_val, t_yes, ta_1, ta_s, to_1, to_s, ea_1, ea_s, eo_1, eo_s, p_none, p_some, intP_int, f_lst, f_cutL, f_rev, f_cat, f_listOf, f_call, f_repE, f_lrange, i_zip, f_sorted, f_sortSet, f_sortK, c_ltT, e_newI, e_peekI, e_isiC, e_lenSet, f_meth, i_seq, i_r1, i_r2, i_r3, slot_0, slot_s, slotO_0, slotO_s, slotA_0, slotA_s, b_add, b_sub, b_mul, b_fdiv, b_mod, b_pow, c_lt, c_le, c_gt, c_ge, c_eq, c_ne, x_lst, x_tup, len_lst, len_tup, bi_abs, bi_max2, bi_min2, bi_min3, bi_max3, is_int, is_lst, tr_bl, tr_int, tr_lst, ne_int, it_lst, it_tup, om_app, dr_lst, sd_lst, sd_tup, lstD_lst, tupD_tup, lO_l, lft_some, lft_map, lft_bind, au_add, au_sub, List.set_cons_zero, List.set_cons_succ, decide_eq_true_eq, Bool.not_eq_true', Bool.false_eq_true, Bool.true_eq_false, if_true, if_false, List.map_cons, List.map_nil, p10_6, p10_9, p10_11, p10_12, p10_18]
        refine ⟨len63 (by simp), ?_⟩
        rw [c_in (l := [8, 14]) rfl]
        (first | exact ⟨rfl, rfl⟩ | exact ⟨rfl, trivial⟩ | exact ⟨trivial, rfl⟩ | exact ⟨trivial, trivial⟩ | trivial)
      · have hk : i = 8 ∨ i = 14 := by
          have := of_decide_eq_true hc
          simp only [List.mem_cons, List.not_mem_nil, or_false] at this
          omega
        rcases hk with rfl | rfl
        · rw [w_cons]
          simp only [sat_ok, e_int, e_str, e_non, e_bl, e_gc, e_var, e_bin, e_neg, e_cmp, e_chain, e_and, e_or, e_not, e_ife, e_tup, e_idx, e_cutS, e_fz, frz_v, frz_l, e_peek, e_bi, e_isi, e_dft, e_new, e_join, e_dct0, e_dct1, bi_tupL, bi_tupT, es_nil, es_cons, t_and, t_or, t_not, t_cmp, t_chain, t_val, t_yes, ta_1, ta_s, to_1, to_s, ea_1, ea_s, eo_1, eo_s, p_none, p_some, intP_int, f_lst, f_cutL, f_rev, f_cat, f_listOf, f_call, f_repE, f_lrange, i_zip, f_sorted, f_sortSet, f_sortK, c_ltT, e_newI, e_peekI, e_isiC, e_lenSet, f_meth, i_seq, i_r1, i_r2, i_r3, slot_0, slot_s, slotO_0, slotO_s, slotA_0, slotA_s, b_add, b_sub, b_mul, b_fdiv, b_mod, b_pow, c_lt, c_le, c_gt, c_ge, c_eq, c_ne, x_lst, x_tup, len_lst, len_tup, bi_abs, bi_max2, bi_min2, bi_min3, bi_max3, is_int, is_lst, tr_bl, tr_int, tr_lst, ne_int, it_lst, it_tup, om_app, dr_lst, sd_lst, sd_tup, lstD_lst, tupD_tup, lO_l, lft_some, lft_map, lft_bind, au_add, au_sub, List.set_cons_zero, List.set_cons_succ, decide_eq_true_eq, Bool.not_eq_true', Bool.false_eq_true, Bool.true_eq_false, if_true, if_false, List.map_cons, List.map_nil, p10_6, p10_9, p10_11, p10_12, p10_18, w_nil, w_asg, w_asgO, w_asgC, w_asgT, w_par, w_aug, w_setC, w_augC, w_setO, w_augO, w_mtO, w_mtC, w_if, w_for, w_ret, w_retF, w_retV, w_retN, w_exp, w_pass, w_brk, w_cont]
          refine sat_wanted_8 ?_
          simp only [frz_l, sat_ok, e_int, e_str, e_non, e_bl, e_gc, e_var, e_bin, e_neg, e_cmp, e_chain, e_and, e_or, e_not, e_ife, e_tup, e_idx, e_cutS, e_fz, frz_v, frz_l, e_peek, e_bi, e_isi, e_dft, e_new, e_join, e_dct0, e_dct1, bi_tupL, bi_tupT, es_nil, es_cons, t_and, t_or, t_not, t_cmp, t_chain, t_val, t_yes, ta_1, ta_s, to_1, to_s, ea_1, ea_s, eo_1, eo_s, p_none, p_some, intP_int, f_lst, f_cutL, f_rev, f_cat, f_listOf, f_call, f_repE, f_lrange, i_zip, f_sorted, f_sortSet, f_sortK, c_ltT, e_newI, e_peekI, e_isiC, e_lenSet, f_meth, i_seq, i_r1, i_r2, i_r3, slot_0, slot_s, slotO_0, slotO_s, slotA_0, slotA_s, b_add, b_sub, b_mul, b_fdiv, b_mod, b_pow, c_lt, c_le, c_gt, c_ge, c_eq, c_ne, x_lst, x_tup, len_lst, len_tup, bi_abs, bi_max2, bi_min2, bi_min3, bi_max3, is_int, is_lst, tr_bl, tr_int, tr_lst, ne_int, it_lst, it_tup, om_app, dr_lst, sd_lst, sd_tup, lstD_lst, tupD_tup, lO_l, lft_some, lft_map, lft_bind, au_add, au_sub, List.set_cons_zero, List.set_cons_succ, decide_eq_true_eq, Bool.not_eq_true', Bool.false_eq_true, Bool.true_eq_false, if_true, if_false, List.map_cons, List.map_nil, p10_6, p10_9, p10_11, p10_12, p10_18]
          exact last _ _ s _ (fun s Q h => sat_is_int h) rfl
        · rw [w_cons]
          simp only [sat_ok, e_int, e_str, e_non, e_bl, e_gc, e_var, e_bin, e_neg, e_cmp, e_chain, e_and, e_or, e_not, e_ife, e_tup, e_idx, e_cutS, e_fz, frz_v, frz_l, e_peek, e_bi, e_isi, e_dft, e_new, e_join, e_dct0, e_dct1, bi_tupL, bi_tupT, es_nil, es_cons, t_and, t_or, t_not, t_cmp, t_chain, t_val, t_yes, ta_1, ta_s, to_1, to_s, ea_1, ea_s, eo_1, eo_s, p_none, p_some, intP_int, f_lst, f_cutL, f_rev, f_cat, f_listOf, f_call, f_repE, f_lrange, i_zip, f_sorted, f_sortSet, f_sortK, c_ltT, e_newI, e_peekI, e_isiC, e_lenSet, f_meth, i_seq, i_r1, i_r2, i_r3, slot_0, slot_s, slotO_0, slotO_s, slotA_0, slotA_s, b_add, b_sub, b_mul, b_fdiv, b_mod, b_pow, c_lt, c_le, c_gt, c_ge, c_eq, c_ne, x_lst, x_tup, len_lst, len_tup, bi_abs, bi_max2, bi_min2, bi_min3, bi_max3, is_int, is_lst, tr_bl, tr_int, tr_lst, ne_int, it_lst, it_tup, om_app, dr_lst, sd_lst, sd_tup, lstD_lst, tupD_tup, lO_l, lft_some, lft_map, lft_bind, au_add, au_sub, List.set_cons_zero, List.set_cons_succ, decide_eq_true_eq, Bool.not_eq_true', Bool.false_eq_true, Bool.true_eq_false, if_true, if_false, List.map_cons, List.map_nil, p10_6, p10_9, p10_11, p10_12, p10_18, w_nil, w_asg, w_asgO, w_asgC, w_asgT, w_par, w_aug, w_setC, w_augC, w_setO, w_augO, w_mtO, w_mtC, w_if, w_for, w_ret, w_retF, w_retV, w_retN, w_exp, w_pass, w_brk, w_cont]
          refine sat_wanted_14 ?_
          simp only [frz_l, sat_ok, e_int, e_str, e_non, e_bl, e_gc, e_var, e_bin, e_neg, e_cmp, e_chain, e_and, e_or, e_not, e_ife, e_tup, e_idx, e_cutS, e_fz, frz_v, frz_l, e_peek, e_bi, e_isi, e_dft, e_new, e_join, e_dct0, e_dct1, bi_tupL, bi_tupT, es_nil, es_cons, t_and, t_or, t_not, t_cmp, t_chain, t_val, t_yes, ta_1, ta_s, to_1, to_s, ea_1, ea_s, eo_1, eo_s, p_none, p_some, intP_int, f_lst, f_cutL, f_rev, f_cat, f_listOf, f_call, f_repE, f_lrange, i_zip, f_sorted, f_sortSet, f_sortK, c_ltT, e_newI, e_peekI, e_isiC, e_lenSet, f_meth, i_seq, i_r1, i_r2, i_r3, slot_0, slot_s, slotO_0, slotO_s, slotA_0, slotA_s, b_add, b_sub, b_mul, b_fdiv, b_mod, b_pow, c_lt, c_le, c_gt, c_ge, c_eq, c_ne, x_lst, x_tup, len_lst, len_tup, bi_abs, bi_max2, bi_min2, bi_min3, bi_max3, is_int, is_lst, tr_bl, tr_int, tr_lst, ne_int, it_lst, it_tup, om_app, dr_lst, sd_lst, sd_tup, lstD_lst, tupD_tup, lO_l, lft_some, lft_map, lft_bind, au_add, au_sub, List.set_cons_zero, List.set_cons_succ, decide_eq_true_eq, Bool.not_eq_true', Bool.false_eq_true, Bool.true_eq_false, if_true, if_false, List.map_cons, List.map_nil, p10_6, p10_9, p10_11, p10_12, p10_18]
          exact last _ _ s _ (fun s Q h => sat_is_int h) rfl
      · rw [w_cons]
        refine w_ifB (decide ((i : Int) ∈ [5, 6, 7])) ?_ (fun hc => ?_) fun hc3 => ?_
        · simp only [sat_ok, e_int, e_str, e_non, e_bl, e_gc, e_var, e_bin, e_neg, e_cmp, e_chain, e_and, e_or, e_not, e_ife, e_tup, e_idx, e_cutS, e_fz, frz_v, frz_l, e_peek, e_bi, e_isi, e_dft, e_new, e_join, e_dct0, e_dct1, bi_tupL, bi_tupT, es_nil, es_cons, t_and, t_or, t_not, t_cmp, t_chain, t_val, t_yes, ta_1, ta_s, to_1, to_s, ea_1, ea_s, eo_1, eo_s, p_none, p_some, intP_int, f_lst, f_cutL, f_rev, f_cat, f_listOf, f_call, f_repE, f_lrange, i_zip, f_sorted, f_sortSet, f_sortK, c_ltT, e_newI, e_peekI, e_isiC, e_lenSet, f_meth, i_seq, i_r1, i_r2, i_r3, slot_0, slot_s, slotO_0, slotO_s, slotA_0, slotA_s, b_add, b_sub, b_mul, b_fdiv, b_mod, b_pow, c_lt, c_le, c_gt, c_ge, c_eq, c_ne, x_lst, x_tup, len_lst, len_tup, bi_abs, bi_max2, bi_min2, bi_min3, bi_max3, is_int, is_lst, tr_bl, tr_int, tr_lst, ne_int, it_lst, it_tup, om_app, dr_lst, sd_lst, sd_tup, lstD_lst, tupD_tup, lO_l, lft_some, lft_map, lft_bind, au_add, au_sub, List.set_cons_zero, List.set_cons_succ, decide_eq_true_eq, Bool.not_eq_true', Bool.false_eq_true, Bool.true_eq_false, if_true, if_false, List.map_cons, List.map_nil, p10_6, p10_9, p10_11, p10_12, p10_18]
          refine ⟨len63 (by simp), ?_⟩
          rw [c_in (l := [5, 6, 7]) rfl]
          (first | exact ⟨rfl, rfl⟩ | exact ⟨rfl, trivial⟩ | exact ⟨trivial, rfl⟩ | exact ⟨trivial, trivial⟩ | trivial)
        · have hk : i = 5 ∨ i = 6 ∨ i = 7 := by
            have := of_decide_eq_true hc
            simp only [List.mem_cons, List.not_mem_nil, or_false] at this
            omega
          rcases hk with rfl | rfl | rfl
          · rw [w_cons]
            simp only [sat_ok, e_int, e_str, e_non, e_bl, e_gc, e_var, e_bin, e_neg, e_cmp, e_chain, e_and, e_or, e_not, e_ife, e_tup, e_idx, e_cutS, e_fz, frz_v, frz_l, e_peek, e_bi, e_isi, e_dft, e_new, e_join, e_dct0, e_dct1, bi_tupL, bi_tupT, es_nil, es_cons, t_and, t_or, t_not, t_cmp, t_chain, t_val, t_yes, ta_1, ta_s, to_1, to_s, ea_1, ea_s, eo_1, eo_s, p_none, p_some, intP_int, f_lst, f_cutL, f_rev, f_cat, f_listOf, f_call, f_repE, f_lrange, i_zip, f_sorted, f_sortSet, f_sortK, c_ltT, e_newI, e_peekI, e_isiC, e_lenSet, f_meth, i_seq, i_r1, i_r2, i_r3, slot_0, slot_s, slotO_0, slotO_s, slotA_0, slotA_s, b_add, b_sub, b_mul, b_fdiv, b_mod, b_pow, c_lt, c_le, c_gt, c_ge, c_eq, c_ne, x_lst, x_tup, len_lst, len_tup, bi_abs, bi_max2, bi_min2, bi_min3, bi_max3, is_int, is_lst, tr_bl, tr_int, tr_lst, ne_int, it_lst, it_tup, om_app, dr_lst, sd_lst, sd_tup, lstD_lst, tupD_tup, lO_l, lft_some, lft_map, lft_bind, au_add, au_sub, List.set_cons_zero, List.set_cons_succ, decide_eq_true_eq, Bool.not_eq_true', Bool.false_eq_true, Bool.true_eq_false, if_true, if_false, List.map_cons, List.map_nil, p10_6, p10_9, p10_11, p10_12, p10_18, w_nil, w_asg, w_asgO, w_asgC, w_asgT, w_par, w_aug, w_setC, w_augC, w_setO, w_augO, w_mtO, w_mtC, w_if, w_for, w_ret, w_retF, w_retV, w_retN, w_exp, w_pass, w_brk, w_cont]
            refine sat_name_5 ?_
            simp only [frz_l, sat_ok, e_int, e_str, e_non, e_bl, e_gc, e_var, e_bin, e_neg, e_cmp, e_chain, e_and, e_or, e_not, e_ife, e_tup, e_idx, e_cutS, e_fz, frz_v, frz_l, e_peek, e_bi, e_isi, e_dft, e_new, e_join, e_dct0, e_dct1, bi_tupL, bi_tupT, es_nil, es_cons, t_and, t_or, t_not, t_cmp, t_chain, t_val, t_yes, ta_1, ta_s, to_1, to_s, ea_1, ea_s, eo_1, eo_s, p_none, p_some, intP_int, f_lst, f_cutL, f_rev, f_cat, f_listOf, f_call, f_repE, f_lrange, i_zip, f_sorted, f_sortSet, f_sortK, c_ltT, e_newI, e_peekI, e_isiC, e_lenSet, f_meth, i_seq, i_r1, i_r2, i_r3, slot_0, slot_s, slotO_0, slotO_s, slotA_0, slotA_s, b_add, b_sub, b_mul, b_fdiv, b_mod, b_pow, c_lt, c_le, c_gt, c_ge, c_eq, c_ne, x_lst, x_tup, len_lst, len_tup, bi_abs, bi_max2, bi_min2, bi_min3, bi_max3, is_int, is_lst, tr_bl, tr_int, tr_lst, ne_int, it_lst, it_tup, om_app, dr_lst, sd_lst, sd_tup, lstD_lst, tupD_tup, lO_l, lft_some, lft_map, lft_bind, au_add, au_sub, List.set_cons_zero, List.set_cons_succ, decide_eq_true_eq, Bool.not_eq_true', Bool.false_eq_true, Bool.true_eq_false, if_true, if_false, List.map_cons, List.map_nil, p10_6, p10_9, p10_11, p10_12, p10_18]
            rw [w_cons]
            simp only [sat_ok, e_int, e_str, e_non, e_bl, e_gc, e_var, e_bin, e_neg, e_cmp, e_chain, e_and, e_or, e_not, e_ife, e_tup, e_idx, e_cutS, e_fz, frz_v, frz_l, e_peek, e_bi, e_isi, e_dft, e_new, e_join, e_dct0, e_dct1, bi_tupL, bi_tupT, es_nil, es_cons, t_and, t_or, t_not, t_cmp, t_chain, t_val, t_yes, ta_1, ta_s, to_1, to_s, ea_1, ea_s, eo_1, eo_s, p_none, p_some, intP_int, f_lst, f_cutL, f_rev, f_cat, f_listOf, f_call, f_repE, f_lrange, i_zip, f_sorted, f_sortSet, f_sortK, c_ltT, e_newI, e_peekI, e_isiC, e_lenSet, f_meth, i_seq, i_r1, i_r2, i_r3, slot_0, slot_s, slotO_0, slotO_s, slotA_0, slotA_s, b_add, b_sub, b_mul, b_fdiv, b_mod, b_pow, c_lt, c_le, c_gt, c_ge, c_eq, c_ne, x_lst, x_tup, len_lst, len_tup, bi_abs, bi_max2, bi_min2, bi_min3, bi_max3, is_int, is_lst, tr_bl, tr_int, tr_lst, ne_int, it_lst, it_tup, om_app, dr_lst, sd_lst, sd_tup, lstD_lst, tupD_tup, lO_l, lft_some, lft_map, lft_bind, au_add, au_sub, List.set_cons_zero, List.set_cons_succ, decide_eq_true_eq, Bool.not_eq_true', Bool.false_eq_true, Bool.true_eq_false, if_true, if_false, List.map_cons, List.map_nil, p10_6, p10_9, p10_11, p10_12, p10_18, w_nil, w_asg, w_asgO, w_asgC, w_asgT, w_par, w_aug, w_setC, w_augC, w_setO, w_augO, w_mtO, w_mtC, w_if, w_for, w_ret, w_retF, w_retV, w_retN, w_exp, w_pass, w_brk, w_cont]
            exact last _ _ s _ (fun s Q h => sat_is_str h) rfl
          · rw [w_cons]
            simp only [sat_ok, e_int, e_str, e_non, e_bl, e_gc, e_var, e_bin, e_neg, e_cmp, e_chain, e_and, e_or, e_not, e_ife, e_tup, e_idx, e_cutS, e_fz, frz_v, frz_l, e_peek, e_bi, e_isi, e_dft, e_new, e_join, e_dct0, e_dct1, bi_tupL, bi_tupT, es_nil, es_cons, t_and, t_or, t_not, t_cmp, t_chain, t_val, t_yes, ta_1, ta_s, to_1, to_s, ea_1, ea_s, eo_1, eo_s, p_none, p_some, intP_int, f_lst, f_cutL, f_rev, f_cat, f_listOf, f_call, f_repE, f_lrange, i_zip, f_sorted, f_sortSet, f_sortK, c_ltT, e_newI, e_peekI, e_isiC, e_lenSet, f_meth, i_seq, i_r1, i_r2, i_r3, slot_0, slot_s, slotO_0, slotO_s, slotA_0, slotA_s, b_add, b_sub, b_mul, b_fdiv, b_mod, b_pow, c_lt, c_le, c_gt, c_ge, c_eq, c_ne, x_lst, x_tup, len_lst, len_tup, bi_abs, bi_max2, bi_min2, bi_min3, bi_max3, is_int, is_lst, tr_bl, tr_int, tr_lst, ne_int, it_lst, it_tup, om_app, dr_lst, sd_lst, sd_tup, lstD_lst, tupD_tup, lO_l, lft_some, lft_map, lft_bind, au_add, au_sub, List.set_cons_zero, List.set_cons_succ, decide_eq_true_eq, Bool.not_eq_true', Bool.false_eq_true, Bool.true_eq_false, if_true, if_false, List.map_cons, List.map_nil, p10_6, p10_9, p10_11, p10_12, p10_18, w_nil, w_asg, w_asgO, w_asgC, w_asgT, w_par, w_aug, w_setC, w_augC, w_setO, w_augO, w_mtO, w_mtC, w_if, w_for, w_ret, w_retF, w_retV, w_retN, w_exp, w_pass, w_brk, w_cont]
            refine sat_name_6 ?_
            simp only [frz_l, sat_ok, e_int, e_str, e_non, e_bl, e_gc, e_var, e_bin, e_neg, e_cmp, e_chain, e_and, e_or, e_not, e_ife, e_tup, e_idx, e_cutS, e_fz, frz_v, frz_l, e_peek, e_bi, e_isi, e_dft, e_new, e_join, e_dct0, e_dct1, bi_tupL, bi_tupT, es_nil, es_cons, t_and, t_or, t_not, t_cmp, t_chain, t_val, t_yes, ta_1, ta_s, to_1, to_s, ea_1, ea_s, eo_1, eo_s, p_none, p_some, intP_int, f_lst, f_cutL, f_rev, f_cat, f_listOf, f_call, f_repE, f_lrange, i_zip, f_sorted, f_sortSet, f_sortK, c_ltT, e_newI, e_peekI, e_isiC, e_lenSet, f_meth, i_seq, i_r1, i_r2, i_r3, slot_0, slot_s, slotO_0, slotO_s, slotA_0, slotA_s, b_add, b_sub, b_mul, b_fdiv, b_mod, b_pow, c_lt, c_le, c_gt, c_ge, c_eq, c_ne, x_lst, x_tup, len_lst, len_tup, bi_abs, bi_max2, bi_min2, bi_min3, bi_max3, is_int, is_lst, tr_bl, tr_int, tr_lst, ne_int, it_lst, it_tup, om_app, dr_lst, sd_lst, sd_tup, lstD_lst, tupD_tup, lO_l, lft_some, lft_map, lft_bind, au_add, au_sub, List.set_cons_zero, List.set_cons_succ, decide_eq_true_eq, Bool.not_eq_true', Bool.false_eq_true, Bool.true_eq_false, if_true, if_false, List.map_cons, List.map_nil, p10_6, p10_9, p10_11, p10_12, p10_18]
            rw [w_cons]
            simp only [sat_ok, e_int, e_str, e_non, e_bl, e_gc, e_var, e_bin, e_neg, e_cmp, e_chain, e_and, e_or, e_not, e_ife, e_tup, e_idx, e_cutS, e_fz, frz_v, frz_l, e_peek, e_bi, e_isi, e_dft, e_new, e_join, e_dct0, e_dct1, bi_tupL, bi_tupT, es_nil, es_cons, t_and, t_or, t_not, t_cmp, t_chain, t_val, t_yes, ta_1, ta_s, to_1, to_s, ea_1, ea_s, eo_1, eo_s, p_none, p_some, intP_int, f_lst, f_cutL, f_rev, f_cat, f_listOf, f_call, f_repE, f_lrange, i_zip, f_sorted, f_sortSet, f_sortK, c_ltT, e_newI, e_peekI, e_isiC, e_lenSet, f_meth, i_seq, i_r1, i_r2, i_r3, slot_0, slot_s, slotO_0, slotO_s, slotA_0, slotA_s, b_add, b_sub, b_mul, b_fdiv, b_mod, b_pow, c_lt, c_le, c_gt, c_ge, c_eq, c_ne, x_lst, x_tup, len_lst, len_tup, bi_abs, bi_max2, bi_min2, bi_min3, bi_max3, is_int, is_lst, tr_bl, tr_int, tr_lst, ne_int, it_lst, it_tup, om_app, dr_lst, sd_lst, sd_tup, lstD_lst, tupD_tup, lO_l, lft_some, lft_map, lft_bind, au_add, au_sub, List.set_cons_zero, List.set_cons_succ, decide_eq_true_eq, Bool.not_eq_true', Bool.false_eq_true, Bool.true_eq_false, if_true, if_false, List.map_cons, List.map_nil, p10_6, p10_9, p10_11, p10_12, p10_18, w_nil, w_asg, w_asgO, w_asgC, w_asgT, w_par, w_aug, w_setC, w_augC, w_setO, w_augO, w_mtO, w_mtC, w_if, w_for, w_ret, w_retF, w_retV, w_retN, w_exp, w_pass, w_brk, w_cont]
            exact last _ _ s _ (fun s Q h => sat_is_str h) rfl
          · rw [w_cons]
            simp only [sat_ok, e_int, e_str, e_non, e_bl, e_gc, e_var, e_bin, e_neg, e_cmp, e_chain, e_and, e_or, e_not, e_ife, e_tup, e_idx, e_cutS, e_fz, frz_v, frz_l, e_peek, e_bi, e_isi, e_dft, e_new, e_join, e_dct0, e_dct1, bi_tupL, bi_tupT, es_nil, es_cons, t_and, t_or, t_not, t_cmp, t_chain, t_val, t_yes, ta_1, ta_s, to_1, to_s, ea_1, ea_s, eo_1, eo_s, p_none, p_some, intP_int, f_lst, f_cutL, f_rev, f_cat, f_listOf, f_call, f_repE, f_lrange, i_zip, f_sorted, f_sortSet, f_sortK, c_ltT, e_newI, e_peekI, e_isiC, e_lenSet, f_meth, i_seq, i_r1, i_r2, i_r3, slot_0, slot_s, slotO_0, slotO_s, slotA_0, slotA_s, b_add, b_sub, b_mul, b_fdiv, b_mod, b_pow, c_lt, c_le, c_gt, c_ge, c_eq, c_ne, x_lst, x_tup, len_lst, len_tup, bi_abs, bi_max2, bi_min2, bi_min3, bi_max3, is_int, is_lst, tr_bl, tr_int, tr_lst, ne_int, it_lst, it_tup, om_app, dr_lst, sd_lst, sd_tup, lstD_lst, tupD_tup, lO_l, lft_some, lft_map, lft_bind, au_add, au_sub, List.set_cons_zero, List.set_cons_succ, decide_eq_true_eq, Bool.not_eq_true', Bool.false_eq_true, Bool.true_eq_false, if_true, if_false, List.map_cons, List.map_nil, p10_6, p10_9, p10_11, p10_12, p10_18, w_nil, w_asg, w_asgO, w_asgC, w_asgT, w_par, w_aug, w_setC, w_augC, w_setO, w_augO, w_mtO, w_mtC, w_if, w_for, w_ret, w_retF, w_retV, w_retN, w_exp, w_pass, w_brk, w_cont]
            refine sat_name_7 ?_
            simp only [frz_l, sat_ok, e_int, e_str, e_non, e_bl, e_gc, e_var, e_bin, e_neg, e_cmp, e_chain, e_and, e_or, e_not, e_ife, e_tup, e_idx, e_cutS, e_fz, frz_v, frz_l, e_peek, e_bi, e_isi, e_dft, e_new, e_join, e_dct0, e_dct1, bi_tupL, bi_tupT, es_nil, es_cons, t_and, t_or, t_not, t_cmp, t_chain, t_val, t_yes, ta_1, ta_s, to_1, to_s, ea_1, ea_s, eo_1, eo_s, p_none, p_some, intP_int, f_lst, f_cutL, f_rev, f_cat, f_listOf, f_call, f_repE, f_lrange, i_zip, f_sorted, f_sortSet, f_sortK, c_ltT, e_newI, e_peekI, e_isiC, e_lenSet, f_meth, i_seq, i_r1, i_r2, i_r3, slot_0, slot_s, slotO_0, slotO_s, slotA_0, slotA_s, b_add, b_sub, b_mul, b_fdiv, b_mod, b_pow, c_lt, c_le, c_gt, c_ge, c_eq, c_ne, x_lst, x_tup, len_lst, len_tup, bi_abs, bi_max2, bi_min2, bi_min3, bi_max3, is_int, is_lst, tr_bl, tr_int, tr_lst, ne_int, it_lst, it_tup, om_app, dr_lst, sd_lst, sd_tup, lstD_lst, tupD_tup, lO_l, lft_some, lft_map, lft_bind, au_add, au_sub, List.set_cons_zero, List.set_cons_succ, decide_eq_true_eq, Bool.not_eq_true', Bool.false_eq_true, Bool.true_eq_false, if_true, if_false, List.map_cons, List.map_nil, p10_6, p10_9, p10_11, p10_12, p10_18]
            rw [w_cons]
            simp only [sat_ok, e_int, e_str, e_non, e_bl, e_gc, e_var, e_bin, e_neg, e_cmp, e_chain, e_and, e_or, e_not, e_ife, e_tup, e_idx, e_cutS, e_fz, frz_v, frz_l, e_peek, e_bi, e_isi, e_dft, e_new, e_join, e_dct0, e_dct1, bi_tupL, bi_tupT, es_nil, es_cons, t_and, t_or, t_not, t_cmp, t_chain, t_val, t_yes, ta_1, ta_s, to_1, to_s, ea_1, ea_s, eo_1, eo_s, p_none, p_some, intP_int, f_lst, f_cutL, f_rev, f_cat, f_listOf, f_call, f_repE, f_lrange, i_zip, f_sorted, f_sortSet, f_sortK, c_ltT, e_newI, e_peekI, e_isiC, e_lenSet, f_meth, i_seq, i_r1, i_r2, i_r3, slot_0, slot_s, slotO_0, slotO_s, slotA_0, slotA_s, b_add, b_sub, b_mul, b_fdiv, b_mod, b_pow, c_lt, c_le, c_gt, c_ge, c_eq, c_ne, x_lst, x_tup, len_lst, len_tup, bi_abs, bi_max2, bi_min2, bi_min3, bi_max3, is_int, is_lst, tr_bl, tr_int, tr_lst, ne_int, it_lst, it_tup, om_app, dr_lst, sd_lst, sd_tup, lstD_lst, tupD_tup, lO_l, lft_some, lft_map, lft_bind, au_add, au_sub, List.set_cons_zero, List.set_cons_succ, decide_eq_true_eq, Bool.not_eq_true', Bool.false_eq_true, Bool.true_eq_false, if_true, if_false, List.map_cons, List.map_nil, p10_6, p10_9, p10_11, p10_12, p10_18, w_nil, w_asg, w_asgO, w_asgC, w_asgT, w_par, w_aug, w_setC, w_augC, w_setO, w_augO, w_mtO, w_mtC, w_if, w_for, w_ret, w_retF, w_retV, w_retN, w_exp, w_pass, w_brk, w_cont]
            exact last _ _ s _ (fun s Q h => sat_is_str h) rfl
        · rw [w_cons]
          simp only [sat_ok, e_int, e_str, e_non, e_bl, e_gc, e_var, e_bin, e_neg, e_cmp, e_chain, e_and, e_or, e_not, e_ife, e_tup, e_idx, e_cutS, e_fz, frz_v, frz_l, e_peek, e_bi, e_isi, e_dft, e_new, e_join, e_dct0, e_dct1, bi_tupL, bi_tupT, es_nil, es_cons, t_and, t_or, t_not, t_cmp, t_chain, t_val, t_yes, ta_1, ta_s, to_1, to_s, ea_1, ea_s, eo_1, eo_s, p_none, p_some, intP_int, f_lst, f_cutL, f_rev, f_cat, f_listOf, f_call, f_repE, f_lrange, i_zip, f_sorted, f_sortSet, f_sortK, c_ltT, e_newI, e_peekI, e_isiC, e_lenSet, f_meth, i_seq, i_r1, i_r2, i_r3, slot_0, slot_s, slotO_0, slotO_s, slotA_0, slotA_s, b_add, b_sub, b_mul, b_fdiv, b_mod, b_pow, c_lt, c_le, c_gt, c_ge, c_eq, c_ne, x_lst, x_tup, len_lst, len_tup, bi_abs, bi_max2, bi_min2, bi_min3, bi_max3, is_int, is_lst, tr_bl, tr_int, tr_lst, ne_int, it_lst, it_tup, om_app, dr_lst, sd_lst, sd_tup, lstD_lst, tupD_tup, lO_l, lft_some, lft_map, lft_bind, au_add, au_sub, List.set_cons_zero, List.set_cons_succ, decide_eq_true_eq, Bool.not_eq_true', Bool.false_eq_true, Bool.true_eq_false, if_true, if_false, List.map_cons, List.map_nil, p10_6, p10_9, p10_11, p10_12, p10_18, w_nil, w_asg, w_asgO, w_asgC, w_asgT, w_par, w_aug, w_setC, w_augC, w_setO, w_augO, w_mtO, w_mtC, w_if, w_for, w_ret, w_retF, w_retV, w_retN, w_exp, w_pass, w_brk, w_cont]
          refine ⟨len63 (by simp), ?_⟩
          exact last _ _ s _ (fun s Q h => sat_is_int h) rfl
theorem lawrun : ∀ ns : List Int, ns.length ≤ 63 → ∃ s, call P dep 10 [.lst (intL ns)] ⟨[], 0⟩ = .ok (.v (.bl true)) s := by
  intro ns hns
  suffices h : sat (call P 10 10 [.lst (intL ns)] ⟨[], 0⟩) fun o s => o = .v (.bl true) by
    obtain ⟨o, s, h1, rfl⟩ := sat_ex h
    exact ⟨s, h1⟩
  refine sat_call (m := ⟨1, 8, b_law⟩) (δ := [_, none, none, none, none, none, none, none]) rfl rfl rfl ?_
  simp only [b_law]
  rw [w_cons]
  simp only [sat_ok, e_int, e_str, e_non, e_bl, e_gc, e_var, e_bin, e_neg, e_cmp, e_chain, e_and, e_or, e_not, e_ife, e_tup, e_idx, e_cutS, e_fz, frz_v, frz_l, e_peek, e_bi, e_isi, e_dft, e_new, e_join, e_dct0, e_dct1, bi_tupL, bi_tupT, es_nil, es_cons, t_and, t_or, t_not, t_cmp, t_chain, t_val, t_yes, ta_1, ta_s, to_1, to_s, ea_1, ea_s, eo_1, eo_s, p_none, p_some, intP_int, f_lst, f_cutL, f_rev, f_cat, f_listOf, f_call, f_repE, f_lrange, i_zip, f_sorted, f_sortSet, f_sortK, c_ltT, e_newI, e_peekI, e_isiC, e_lenSet, f_meth, i_seq, i_r1, i_r2, i_r3, slot_0, slot_s, slotO_0, slotO_s, slotA_0, slotA_s, b_add, b_sub, b_mul, b_fdiv, b_mod, b_pow, c_lt, c_le, c_gt, c_ge, c_eq, c_ne, x_lst, x_tup, len_lst, len_tup, bi_abs, bi_max2, bi_min2, bi_min3, bi_max3, is_int, is_lst, tr_bl, tr_int, tr_lst, ne_int, it_lst, it_tup, om_app, dr_lst, sd_lst, sd_tup, lstD_lst, tupD_tup, lO_l, lft_some, lft_map, lft_bind, au_add, au_sub, List.set_cons_zero, List.set_cons_succ, decide_eq_true_eq, Bool.not_eq_true', Bool.false_eq_true, Bool.true_eq_false, if_true, if_false, List.map_cons, List.map_nil, p10_6, p10_9, p10_11, p10_12, p10_18, w_nil, w_asg, w_asgO, w_asgC, w_asgT, w_par, w_aug, w_setC, w_augC, w_setO, w_augO, w_mtO, w_mtC, w_if, w_for, w_ret, w_retF, w_retV, w_retN, w_exp, w_pass, w_brk, w_cont]
  refine sat_open hopen hns (by decide) (by decide) fun s1 ho => ?_
  simp only [frz_v, sat_ok, e_int, e_str, e_non, e_bl, e_gc, e_var, e_bin, e_neg, e_cmp, e_chain, e_and, e_or, e_not, e_ife, e_tup, e_idx, e_cutS, e_fz, frz_v, frz_l, e_peek, e_bi, e_isi, e_dft, e_new, e_join, e_dct0, e_dct1, bi_tupL, bi_tupT, es_nil, es_cons, t_and, t_or, t_not, t_cmp, t_chain, t_val, t_yes, ta_1, ta_s, to_1, to_s, ea_1, ea_s, eo_1, eo_s, p_none, p_some, intP_int, f_lst, f_cutL, f_rev, f_cat, f_listOf, f_call, f_repE, f_lrange, i_zip, f_sorted, f_sortSet, f_sortK, c_ltT, e_newI, e_peekI, e_isiC, e_lenSet, f_meth, i_seq, i_r1, i_r2, i_r3, slot_0, slot_s, slotO_0, slotO_s, slotA_0, slotA_s, b_add, b_sub, b_mul, b_fdiv, b_mod, b_pow, c_lt, c_le, c_gt, c_ge, c_eq, c_ne, x_lst, x_tup, len_lst, len_tup, bi_abs, bi_max2, bi_min2, bi_min3, bi_max3, is_int, is_lst, tr_bl, tr_int, tr_lst, ne_int, it_lst, it_tup, om_app, dr_lst, sd_lst, sd_tup, lstD_lst, tupD_tup, lO_l, lft_some, lft_map, lft_bind, au_add, au_sub, List.set_cons_zero, List.set_cons_succ, decide_eq_true_eq, Bool.not_eq_true', Bool.false_eq_true, Bool.true_eq_false, if_true, if_false, List.map_cons, List.map_nil, p10_6, p10_9, p10_11, p10_12, p10_18]
  obtain ⟨_, _, hh⟩ := ho
  generalize ([] : List Cell).length = n at hh ⊢
  rw [w_cons]
  simp only [sat_ok, e_int, e_str, e_non, e_bl, e_gc, e_var, e_bin, e_neg, e_cmp, e_chain, e_and, e_or, e_not, e_ife, e_tup, e_idx, e_cutS, e_fz, frz_v, frz_l, e_peek, e_bi, e_isi, e_dft, e_new, e_join, e_dct0, e_dct1, bi_tupL, bi_tupT, es_nil, es_cons, t_and, t_or, t_not, t_cmp, t_chain, t_val, t_yes, ta_1, ta_s, to_1, to_s, ea_1, ea_s, eo_1, eo_s, p_none, p_some, intP_int, f_lst, f_cutL, f_rev, f_cat, f_listOf, f_call, f_repE, f_lrange, i_zip, f_sorted, f_sortSet, f_sortK, c_ltT, e_newI, e_peekI, e_isiC, e_lenSet, f_meth, i_seq, i_r1, i_r2, i_r3, slot_0, slot_s, slotO_0, slotO_s, slotA_0, slotA_s, b_add, b_sub, b_mul, b_fdiv, b_mod, b_pow, c_lt, c_le, c_gt, c_ge, c_eq, c_ne, x_lst, x_tup, len_lst, len_tup, bi_abs, bi_max2, bi_min2, bi_min3, bi_max3, is_int, is_lst, tr_bl, tr_int, tr_lst, ne_int, it_lst, it_tup, om_app, dr_lst, sd_lst, sd_tup, lstD_lst, tupD_tup, lO_l, lft_some, lft_map, lft_bind, au_add, au_sub, List.set_cons_zero, List.set_cons_succ, decide_eq_true_eq, Bool.not_eq_true', Bool.false_eq_true, Bool.true_eq_false, if_true, if_false, List.map_cons, List.map_nil, p10_6, p10_9, p10_11, p10_12, p10_18, w_nil, w_asg, w_asgO, w_asgC, w_asgT, w_par, w_aug, w_setC, w_augC, w_setO, w_augO, w_mtO, w_mtC, w_if, w_for, w_ret, w_retF, w_retV, w_retN, w_exp, w_pass, w_brk, w_cont]
  refine ⟨by decide, ?_⟩
  refine wp_range (fun i s δ => ∃ z2 z3 z4 z5 z6 z7, δ = [some (.v (.lst (intL ns))), some (.v (.ref n)), z2, z3, z4, z5, z6, z7] ∧ Hand s n (1000000 - 40 * i)) ⟨_, _, _, _, _, _, rfl, hh⟩ ?_ ?_
  · rintro s δ ⟨z2, z3, z4, z5, z6, z7, rfl, _⟩
    try dsimp only
    rw [w_cons]
    simp only [sat_ok, e_int, e_str, e_non, e_bl, e_gc, e_var, e_bin, e_neg, e_cmp, e_chain, e_and, e_or, e_not, e_ife, e_tup, e_idx, e_cutS, e_fz, frz_v, frz_l, e_peek, e_bi, e_isi, e_dft, e_new, e_join, e_dct0, e_dct1, bi_tupL, bi_tupT, es_nil, es_cons, t_and, t_or, t_not, t_cmp, t_chain, t_val, t_yes, ta_1, ta_s, to_1, to_s, ea_1, ea_s, eo_1, eo_s, p_none, p_some, intP_int, f_lst, f_cutL, f_rev, f_cat, f_listOf, f_call, f_repE, f_lrange, i_zip, f_sorted, f_sortSet, f_sortK, c_ltT, e_newI, e_peekI, e_isiC, e_lenSet, f_meth, i_seq, i_r1, i_r2, i_r3, slot_0, slot_s, slotO_0, slotO_s, slotA_0, slotA_s, b_add, b_sub, b_mul, b_fdiv, b_mod, b_pow, c_lt, c_le, c_gt, c_ge, c_eq, c_ne, x_lst, x_tup, len_lst, len_tup, bi_abs, bi_max2, bi_min2, bi_min3, bi_max3, is_int, is_lst, tr_bl, tr_int, tr_lst, ne_int, it_lst, it_tup, om_app, dr_lst, sd_lst, sd_tup, lstD_lst, tupD_tup, lO_l, lft_some, lft_map, lft_bind, au_add, au_sub, List.set_cons_zero, List.set_cons_succ, decide_eq_true_eq, Bool.not_eq_true', Bool.false_eq_true, Bool.true_eq_false, if_true, if_false, List.map_cons, List.map_nil, p10_6, p10_9, p10_11, p10_12, p10_18, w_nil, w_asg, w_asgO, w_asgC, w_asgT, w_par, w_aug, w_setC, w_augC, w_setO, w_augO, w_mtO, w_mtC, w_if, w_for, w_ret, w_retF, w_retV, w_retN, w_exp, w_pass, w_brk, w_cont]
  · rintro i s δ hi ⟨z2, z3, z4, z5, z6, z7, rfl, hh⟩
    have hi' : i < 15 := hi
    try dsimp only
    rw [w_cons]
    simp only [sat_ok, e_int, e_str, e_non, e_bl, e_gc, e_var, e_bin, e_neg, e_cmp, e_chain, e_and, e_or, e_not, e_ife, e_tup, e_idx, e_cutS, e_fz, frz_v, frz_l, e_peek, e_bi, e_isi, e_dft, e_new, e_join, e_dct0, e_dct1, bi_tupL, bi_tupT, es_nil, es_cons, t_and, t_or, t_not, t_cmp, t_chain, t_val, t_yes, ta_1, ta_s, to_1, to_s, ea_1, ea_s, eo_1, eo_s, p_none, p_some, intP_int, f_lst, f_cutL, f_rev, f_cat, f_listOf, f_call, f_repE, f_lrange, i_zip, f_sorted, f_sortSet, f_sortK, c_ltT, e_newI, e_peekI, e_isiC, e_lenSet, f_meth, i_seq, i_r1, i_r2, i_r3, slot_0, slot_s, slotO_0, slotO_s, slotA_0, slotA_s, b_add, b_sub, b_mul, b_fdiv, b_mod, b_pow, c_lt, c_le, c_gt, c_ge, c_eq, c_ne, x_lst, x_tup, len_lst, len_tup, bi_abs, bi_max2, bi_min2, bi_min3, bi_max3, is_int, is_lst, tr_bl, tr_int, tr_lst, ne_int, it_lst, it_tup, om_app, dr_lst, sd_lst, sd_tup, lstD_lst, tupD_tup, lO_l, lft_some, lft_map, lft_bind, au_add, au_sub, List.set_cons_zero, List.set_cons_succ, decide_eq_true_eq, Bool.not_eq_true', Bool.false_eq_true, Bool.true_eq_false, if_true, if_false, List.map_cons, List.map_nil, p10_6, p10_9, p10_11, p10_12, p10_18, w_nil, w_asg, w_asgO, w_asgC, w_asgT, w_par, w_aug, w_setC, w_augC, w_setO, w_augO, w_mtO, w_mtC, w_if, w_for, w_ret, w_retF, w_retV, w_retN, w_exp, w_pass, w_brk, w_cont]
    refine sat_draw (b := 1000000 - 40 * i - 1) hdraw (hh.less (by omega)) (by decide) (by decide) fun r s2 r0 r1 h2 _ => ?_
    simp only [frz_v, sat_ok, e_int, e_str, e_non, e_bl, e_gc, e_var, e_bin, e_neg, e_cmp, e_chain, e_and, e_or, e_not, e_ife, e_tup, e_idx, e_cutS, e_fz, frz_v, frz_l, e_peek, e_bi, e_isi, e_dft, e_new, e_join, e_dct0, e_dct1, bi_tupL, bi_tupT, es_nil, es_cons, t_and, t_or, t_not, t_cmp, t_chain, t_val, t_yes, ta_1, ta_s, to_1, to_s, ea_1, ea_s, eo_1, eo_s, p_none, p_some, intP_int, f_lst, f_cutL, f_rev, f_cat, f_listOf, f_call, f_repE, f_lrange, i_zip, f_sorted, f_sortSet, f_sortK, c_ltT, e_newI, e_peekI, e_isiC, e_lenSet, f_meth, i_seq, i_r1, i_r2, i_r3, slot_0, slot_s, slotO_0, slotO_s, slotA_0, slotA_s, b_add, b_sub, b_mul, b_fdiv, b_mod, b_pow, c_lt, c_le, c_gt, c_ge, c_eq, c_ne, x_lst, x_tup, len_lst, len_tup, bi_abs, bi_max2, bi_min2, bi_min3, bi_max3, is_int, is_lst, tr_bl, tr_int, tr_lst, ne_int, it_lst, it_tup, om_app, dr_lst, sd_lst, sd_tup, lstD_lst, tupD_tup, lO_l, lft_some, lft_map, lft_bind, au_add, au_sub, List.set_cons_zero, List.set_cons_succ, decide_eq_true_eq, Bool.not_eq_true', Bool.false_eq_true, Bool.true_eq_false, if_true, if_false, List.map_cons, List.map_nil, p10_6, p10_9, p10_11, p10_12, p10_18]
    refine sat_letters (b := 1000000 - 40 * i - 21) (h2.less (by omega)) (by omega) (by omega) fun z s3 hz _ h3 => ?_
    simp only [frz_v, sat_ok, e_int, e_str, e_non, e_bl, e_gc, e_var, e_bin, e_neg, e_cmp, e_chain, e_and, e_or, e_not, e_ife, e_tup, e_idx, e_cutS, e_fz, frz_v, frz_l, e_peek, e_bi, e_isi, e_dft, e_new, e_join, e_dct0, e_dct1, bi_tupL, bi_tupT, es_nil, es_cons, t_and, t_or, t_not, t_cmp, t_chain, t_val, t_yes, ta_1, ta_s, to_1, to_s, ea_1, ea_s, eo_1, eo_s, p_none, p_some, intP_int, f_lst, f_cutL, f_rev, f_cat, f_listOf, f_call, f_repE, f_lrange, i_zip, f_sorted, f_sortSet, f_sortK, c_ltT, e_newI, e_peekI, e_isiC, e_lenSet, f_meth, i_seq, i_r1, i_r2, i_r3, slot_0, slot_s, slotO_0, slotO_s, slotA_0, slotA_s, b_add, b_sub, b_mul, b_fdiv, b_mod, b_pow, c_lt, c_le, c_gt, c_ge, c_eq, c_ne, x_lst, x_tup, len_lst, len_tup, bi_abs, bi_max2, bi_min2, bi_min3, bi_max3, is_int, is_lst, tr_bl, tr_int, tr_lst, ne_int, it_lst, it_tup, om_app, dr_lst, sd_lst, sd_tup, lstD_lst, tupD_tup, lO_l, lft_some, lft_map, lft_bind, au_add, au_sub, List.set_cons_zero, List.set_cons_succ, decide_eq_true_eq, Bool.not_eq_true', Bool.false_eq_true, Bool.true_eq_false, if_true, if_false, List.map_cons, List.map_nil, p10_6, p10_9, p10_11, p10_12, p10_18]
    rw [w_cons]
    simp only [sat_ok, e_int, e_str, e_non, e_bl, e_gc, e_var, e_bin, e_neg, e_cmp, e_chain, e_and, e_or, e_not, e_ife, e_tup, e_idx, e_cutS, e_fz, frz_v, frz_l, e_peek, e_bi, e_isi, e_dft, e_new, e_join, e_dct0, e_dct1, bi_tupL, bi_tupT, es_nil, es_cons, t_and, t_or, t_not, t_cmp, t_chain, t_val, t_yes, ta_1, ta_s, to_1, to_s, ea_1, ea_s, eo_1, eo_s, p_none, p_some, intP_int, f_lst, f_cutL, f_rev, f_cat, f_listOf, f_call, f_repE, f_lrange, i_zip, f_sorted, f_sortSet, f_sortK, c_ltT, e_newI, e_peekI, e_isiC, e_lenSet, f_meth, i_seq, i_r1, i_r2, i_r3, slot_0, slot_s, slotO_0, slotO_s, slotA_0, slotA_s, b_add, b_sub, b_mul, b_fdiv, b_mod, b_pow, c_lt, c_le, c_gt, c_ge, c_eq, c_ne, x_lst, x_tup, len_lst, len_tup, bi_abs, bi_max2, bi_min2, bi_min3, bi_max3, is_int, is_lst, tr_bl, tr_int, tr_lst, ne_int, it_lst, it_tup, om_app, dr_lst, sd_lst, sd_tup, lstD_lst, tupD_tup, lO_l, lft_some, lft_map, lft_bind, au_add, au_sub, List.set_cons_zero, List.set_cons_succ, decide_eq_true_eq, Bool.not_eq_true', Bool.false_eq_true, Bool.true_eq_false, if_true, if_false, List.map_cons, List.map_nil, p10_6, p10_9, p10_11, p10_12, p10_18, w_nil, w_asg, w_asgO, w_asgC, w_asgT, w_par, w_aug, w_setC, w_augC, w_setO, w_augO, w_mtO, w_mtC, w_if, w_for, w_ret, w_retF, w_retV, w_retN, w_exp, w_pass, w_brk, w_cont]
    refine ⟨⟨by decide, by decide⟩, ?_⟩
    refine sat_far (b := 1000000 - 40 * i - 32) hfar hdraw (h3.less (by omega)) (by decide) fun m s4 m0 m1 h4 _ => ?_
    simp only [frz_v, sat_ok, e_int, e_str, e_non, e_bl, e_gc, e_var, e_bin, e_neg, e_cmp, e_chain, e_and, e_or, e_not, e_ife, e_tup, e_idx, e_cutS, e_fz, frz_v, frz_l, e_peek, e_bi, e_isi, e_dft, e_new, e_join, e_dct0, e_dct1, bi_tupL, bi_tupT, es_nil, es_cons, t_and, t_or, t_not, t_cmp, t_chain, t_val, t_yes, ta_1, ta_s, to_1, to_s, ea_1, ea_s, eo_1, eo_s, p_none, p_some, intP_int, f_lst, f_cutL, f_rev, f_cat, f_listOf, f_call, f_repE, f_lrange, i_zip, f_sorted, f_sortSet, f_sortK, c_ltT, e_newI, e_peekI, e_isiC, e_lenSet, f_meth, i_seq, i_r1, i_r2, i_r3, slot_0, slot_s, slotO_0, slotO_s, slotA_0, slotA_s, b_add, b_sub, b_mul, b_fdiv, b_mod, b_pow, c_lt, c_le, c_gt, c_ge, c_eq, c_ne, x_lst, x_tup, len_lst, len_tup, bi_abs, bi_max2, bi_min2, bi_min3, bi_max3, is_int, is_lst, tr_bl, tr_int, tr_lst, ne_int, it_lst, it_tup, om_app, dr_lst, sd_lst, sd_tup, lstD_lst, tupD_tup, lO_l, lft_some, lft_map, lft_bind, au_add, au_sub, List.set_cons_zero, List.set_cons_succ, decide_eq_true_eq, Bool.not_eq_true', Bool.false_eq_true, Bool.true_eq_false, if_true, if_false, List.map_cons, List.map_nil, p10_6, p10_9, p10_11, p10_12, p10_18]
    rw [w_cons]
    simp only [sat_ok, e_int, e_str, e_non, e_bl, e_gc, e_var, e_bin, e_neg, e_cmp, e_chain, e_and, e_or, e_not, e_ife, e_tup, e_idx, e_cutS, e_fz, frz_v, frz_l, e_peek, e_bi, e_isi, e_dft, e_new, e_join, e_dct0, e_dct1, bi_tupL, bi_tupT, es_nil, es_cons, t_and, t_or, t_not, t_cmp, t_chain, t_val, t_yes, ta_1, ta_s, to_1, to_s, ea_1, ea_s, eo_1, eo_s, p_none, p_some, intP_int, f_lst, f_cutL, f_rev, f_cat, f_listOf, f_call, f_repE, f_lrange, i_zip, f_sorted, f_sortSet, f_sortK, c_ltT, e_newI, e_peekI, e_isiC, e_lenSet, f_meth, i_seq, i_r1, i_r2, i_r3, slot_0, slot_s, slotO_0, slotO_s, slotA_0, slotA_s, b_add, b_sub, b_mul, b_fdiv, b_mod, b_pow, c_lt, c_le, c_gt, c_ge, c_eq, c_ne, x_lst, x_tup, len_lst, len_tup, bi_abs, bi_max2, bi_min2, bi_min3, bi_max3, is_int, is_lst, tr_bl, tr_int, tr_lst, ne_int, it_lst, it_tup, om_app, dr_lst, sd_lst, sd_tup, lstD_lst, tupD_tup, lO_l, lft_some, lft_map, lft_bind, au_add, au_sub, List.set_cons_zero, List.set_cons_succ, decide_eq_true_eq, Bool.not_eq_true', Bool.false_eq_true, Bool.true_eq_false, if_true, if_false, List.map_cons, List.map_nil, p10_6, p10_9, p10_11, p10_12, p10_18, w_nil, w_asg, w_asgO, w_asgC, w_asgT, w_par, w_aug, w_setC, w_augC, w_setO, w_augO, w_mtO, w_mtC, w_if, w_for, w_ret, w_retF, w_retV, w_retN, w_exp, w_pass, w_brk, w_cont]
    refine sat_draw (b := 1000000 - 40 * i - 33) hdraw (h4.less (by omega)) (by decide) (by decide) fun r' s5 r0' r1' h5 _ => ?_
    simp only [frz_v, sat_ok, e_int, e_str, e_non, e_bl, e_gc, e_var, e_bin, e_neg, e_cmp, e_chain, e_and, e_or, e_not, e_ife, e_tup, e_idx, e_cutS, e_fz, frz_v, frz_l, e_peek, e_bi, e_isi, e_dft, e_new, e_join, e_dct0, e_dct1, bi_tupL, bi_tupT, es_nil, es_cons, t_and, t_or, t_not, t_cmp, t_chain, t_val, t_yes, ta_1, ta_s, to_1, to_s, ea_1, ea_s, eo_1, eo_s, p_none, p_some, intP_int, f_lst, f_cutL, f_rev, f_cat, f_listOf, f_call, f_repE, f_lrange, i_zip, f_sorted, f_sortSet, f_sortK, c_ltT, e_newI, e_peekI, e_isiC, e_lenSet, f_meth, i_seq, i_r1, i_r2, i_r3, slot_0, slot_s, slotO_0, slotO_s, slotA_0, slotA_s, b_add, b_sub, b_mul, b_fdiv, b_mod, b_pow, c_lt, c_le, c_gt, c_ge, c_eq, c_ne, x_lst, x_tup, len_lst, len_tup, bi_abs, bi_max2, bi_min2, bi_min3, bi_max3, is_int, is_lst, tr_bl, tr_int, tr_lst, ne_int, it_lst, it_tup, om_app, dr_lst, sd_lst, sd_tup, lstD_lst, tupD_tup, lO_l, lft_some, lft_map, lft_bind, au_add, au_sub, List.set_cons_zero, List.set_cons_succ, decide_eq_true_eq, Bool.not_eq_true', Bool.false_eq_true, Bool.true_eq_false, if_true, if_false, List.map_cons, List.map_nil, p10_6, p10_9, p10_11, p10_12, p10_18, Int.zero_add]
    split
    · rw [w_cons]
      simp only [sat_ok, e_int, e_str, e_non, e_bl, e_gc, e_var, e_bin, e_neg, e_cmp, e_chain, e_and, e_or, e_not, e_ife, e_tup, e_idx, e_cutS, e_fz, frz_v, frz_l, e_peek, e_bi, e_isi, e_dft, e_new, e_join, e_dct0, e_dct1, bi_tupL, bi_tupT, es_nil, es_cons, t_and, t_or, t_not, t_cmp, t_chain, t_val, t_yes, ta_1, ta_s, to_1, to_s, ea_1, ea_s, eo_1, eo_s, p_none, p_some, intP_int, f_lst, f_cutL, f_rev, f_cat, f_listOf, f_call, f_repE, f_lrange, i_zip, f_sorted, f_sortSet, f_sortK, c_ltT, e_newI, e_peekI, e_isiC, e_lenSet, f_meth, i_seq, i_r1, i_r2, i_r3, slot_0, slot_s, slotO_0, slotO_s, slotA_0, slotA_s, b_add, b_sub, b_mul, b_fdiv, b_mod, b_pow, c_lt, c_le, c_gt, c_ge, c_eq, c_ne, x_lst, x_tup, len_lst, len_tup, bi_abs, bi_max2, bi_min2, bi_min3, bi_max3, is_int, is_lst, tr_bl, tr_int, tr_lst, ne_int, it_lst, it_tup, om_app, dr_lst, sd_lst, sd_tup, lstD_lst, tupD_tup, lO_l, lft_some, lft_map, lft_bind, au_add, au_sub, List.set_cons_zero, List.set_cons_succ, decide_eq_true_eq, Bool.not_eq_true', Bool.false_eq_true, Bool.true_eq_false, if_true, if_false, List.map_cons, List.map_nil, p10_6, p10_9, p10_11, p10_12, p10_18, w_nil, w_asg, w_asgO, w_asgC, w_asgT, w_par, w_aug, w_setC, w_augC, w_setO, w_augO, w_mtO, w_mtC, w_if, w_for, w_ret, w_retF, w_retV, w_retN, w_exp, w_pass, w_brk, w_cont]
      refine sat_draw (b := 1000000 - 40 * i - 34) hdraw (h5.less (by omega)) (by decide) (by decide) fun r2 s6 r02 r12 h6 _ => ?_
      simp only [frz_v, sat_ok, e_int, e_str, e_non, e_bl, e_gc, e_var, e_bin, e_neg, e_cmp, e_chain, e_and, e_or, e_not, e_ife, e_tup, e_idx, e_cutS, e_fz, frz_v, frz_l, e_peek, e_bi, e_isi, e_dft, e_new, e_join, e_dct0, e_dct1, bi_tupL, bi_tupT, es_nil, es_cons, t_and, t_or, t_not, t_cmp, t_chain, t_val, t_yes, ta_1, ta_s, to_1, to_s, ea_1, ea_s, eo_1, eo_s, p_none, p_some, intP_int, f_lst, f_cutL, f_rev, f_cat, f_listOf, f_call, f_repE, f_lrange, i_zip, f_sorted, f_sortSet, f_sortK, c_ltT, e_newI, e_peekI, e_isiC, e_lenSet, f_meth, i_seq, i_r1, i_r2, i_r3, slot_0, slot_s, slotO_0, slotO_s, slotA_0, slotA_s, b_add, b_sub, b_mul, b_fdiv, b_mod, b_pow, c_lt, c_le, c_gt, c_ge, c_eq, c_ne, x_lst, x_tup, len_lst, len_tup, bi_abs, bi_max2, bi_min2, bi_min3, bi_max3, is_int, is_lst, tr_bl, tr_int, tr_lst, ne_int, it_lst, it_tup, om_app, dr_lst, sd_lst, sd_tup, lstD_lst, tupD_tup, lO_l, lft_some, lft_map, lft_bind, au_add, au_sub, List.set_cons_zero, List.set_cons_succ, decide_eq_true_eq, Bool.not_eq_true', Bool.false_eq_true, Bool.true_eq_false, if_true, if_false, List.map_cons, List.map_nil, p10_6, p10_9, p10_11, p10_12, p10_18]
      exact sat_tail hi' h6 fun z5 z6 z7 => ⟨_, _, _, _, _, _, rfl, h6.less (by omega)⟩
    · exact sat_tail hi' h5 fun z5 z6 z7 => ⟨_, _, _, _, _, _, rfl, h5.less (by omega)⟩
end K19
namespace K19
open PySem L2 Mn
def top (i : Nat) : Stmt := PySem.Challenge.pw_weirmark_k19_refusals_apart.main.body.getD i (.Pass ⟨0, 0, 0, 0⟩)
theorem chk_0 : dfC G (P.funs.getD 0 ⟨0, 0, .nil⟩) (top 18) ["_law_script", "_law_place", "_law_cells", "_law_at_here", "_law_digits", "_law_cell"] ["_law_script", "_law_place"] = true := by decide +kernel
theorem chk_1 : dfC G (P.funs.getD 1 ⟨0, 0, .nil⟩) (top 19) ["_law_hand", "_law_many", "_law_cell", "_law_number", "_law_got"] ["_law_hand", "_law_many"] = true := by decide +kernel
theorem chk_2 : dfC G (P.funs.getD 2 ⟨0, 0, .nil⟩) (top 20) ["_law_hand", "_law_bound", "_law_total", "_law_k"] ["_law_hand", "_law_bound"] = true := by decide +kernel
theorem chk_3 : dfC G (P.funs.getD 3 ⟨0, 0, .nil⟩) (top 21) ["_law_hand", "_law_many", "_law_k"] ["_law_hand", "_law_many"] = true := by decide +kernel
theorem chk_4 : dfC G (P.funs.getD 4 ⟨0, 0, .nil⟩) (top 22) ["_law_k", "_law_word", "_law_number"] ["_law_k", "_law_word", "_law_number"] = true := by decide +kernel
theorem chk_5 : dfC G (P.funs.getD 5 ⟨0, 0, .nil⟩) (top 23) ["_law_k", "_law_word", "_law_number", "_law_first", "e"] ["_law_k", "_law_word", "_law_number"] = true := by decide +kernel
theorem chk_6 : dfC G (P.funs.getD 6 ⟨0, 0, .nil⟩) (top 24) ["_law_k", "_law_number", "e"] ["_law_k", "_law_number"] = true := by decide +kernel
theorem chk_7 : dfC G (P.funs.getD 7 ⟨0, 0, .nil⟩) (top 25) ["_law_k", "_law_number", "e"] ["_law_k", "_law_number"] = true := by decide +kernel
theorem chk_8 : dfC G (P.funs.getD 8 ⟨0, 0, .nil⟩) (top 26) ["_law_k", "_law_word", "e"] ["_law_k", "_law_word"] = true := by decide +kernel
theorem chk_9 : dfC G (P.funs.getD 9 ⟨0, 0, .nil⟩) (top 27) ["_law_found", "_law_due"] ["_law_found", "_law_due"] = true := by decide +kernel
theorem chk_10 : dfC G (P.funs.getD 10 ⟨0, 0, .nil⟩) (top 28) ["_law_script", "_law_hand", "_law_k", "_law_word", "_law_number", "_law_found", "_law_due", "_law_one"] ["_law_script"] = true := by decide +kernel
theorem all_mk {K : PySem.W.Frag} {h : Heap} {mg : Str → Option Value} {fa f0 f1 f2 f3 f4 f5 f6 f7 f8 f9 f10  : Addr} (X : K.In h) (Gn : h.Ns mainGlobals mg) (hfa : mg "law" = some (.ref fa))
    {od0 od1 od2 od3 od4 od5 od6 od7 od8 od9 od10 an0 an1 an2 an3 an4 an5 an6 an7 an8 an9 an10 : Option Addr} {sl0 sl1 sl2 sl3 sl4 sl5 sl6 sl7 sl8 sl9 sl10 : Array (Option Value)} {oc0 oc1 oc2 oc3 oc4 oc5 oc6 oc7 oc8 oc9 oc10 kV0 kV1 kV2 kV3 kV4 kV5 kV6 kV7 kV8 kV9 kV10 dc0 dc1 dc2 dc3 dc4 dc5 dc6 dc7 dc8 dc9 dc10 pm0 pm1 pm2 pm3 pm4 pm5 pm6 pm7 pm8 pm9 pm10 cd0 cd1 cd2 cd3 cd4 cd5 cd6 cd7 cd8 cd9 cd10 ct0 ct1 ct2 ct3 ct4 ct5 ct6 ct7 ct8 ct9 ct10 : Value}
    {X0 : Addr} {X1 : Addr} {X2 : Addr} {X3 : Addr} {X4 : Addr} {xn4 xv4 : Str} {xN4 : Addr} {xbs4 xbm4 xsu4 : List Value} {xsn4 : List Str} {xab4 : Bool} {xco4 : Option Bool} {xdd4 : Option Addr} {xm04 xm14 xm24 xm34 xm54 : Option Value} {xfI4 : Addr} {xfc4 xfd4 xfp4 xfv4 xft4 : Value} {xfo4 xfa4 : Option Addr} {xfs4 : Array (Option Value)} {X5 : Addr} {xn5 xv5 : Str} {xN5 : Addr} {xbs5 xbm5 xsu5 : List Value} {xsn5 : List Str} {xab5 : Bool} {xco5 : Option Bool} {xdd5 : Option Addr} {xm05 xm15 xm25 xm35 xm55 : Option Value} {xfI5 : Addr} {xfc5 xfd5 xfp5 xfv5 xft5 : Value} {xfo5 xfa5 : Option Addr} {xfs5 : Array (Option Value)} {X6 : Addr} {xn6 xv6 : Str} {xN6 : Addr} {xbs6 xbm6 xsu6 : List Value} {xsn6 : List Str} {xab6 : Bool} {xco6 : Option Bool} {xdd6 : Option Addr} {xm06 xm16 xm26 xm36 xm56 : Option Value} {xfI6 : Addr} {xfc6 xfd6 xfp6 xfv6 xft6 : Value} {xfo6 xfa6 : Option Addr} {xfs6 : Array (Option Value)} {X7 : Addr} {xn7 xv7 : Str} {xN7 : Addr} {xbs7 xbm7 xsu7 : List Value} {xsn7 : List Str} {xab7 : Bool} {xco7 : Option Bool} {xdd7 : Option Addr} {xm07 xm17 xm27 xm37 xm57 : Option Value} {xfI7 : Addr} {xfc7 xfd7 xfp7 xfv7 xft7 : Value} {xfo7 xfa7 : Option Addr} {xfs7 : Array (Option Value)} {X8 : Addr} {xn8 xv8 : Str} {xN8 : Addr} {xbs8 xbm8 xsu8 : List Value} {xsn8 : List Str} {xab8 : Bool} {xco8 : Option Bool} {xdd8 : Option Addr} {xm08 xm18 xm28 xm38 xm58 : Option Value} {xfI8 : Addr} {xfc8 xfd8 xfp8 xfv8 xft8 : Value} {xfo8 xfa8 : Option Addr} {xfs8 : Array (Option Value)} {X9 : Addr} {X10 : Addr} {X11 : Addr} {xn11 xv11 : Str} {xN11 : Addr} {xbs11 xbm11 xsu11 : List Value} {xsn11 : List Str} {xab11 : Bool} {xco11 : Option Bool} {xdd11 : Option Addr} {xm011 xm111 xm211 xm311 xm511 : Option Value} {xfI11 : Addr} {xfc11 xfd11 xfp11 xfv11 xft11 : Value} {xfo11 xfa11 : Option Addr} {xfs11 : Array (Option Value)} {X12 : Addr} {X13 : Addr} {X14 : Addr} {xn14 xv14 : Str} {xN14 : Addr} {xbs14 xbm14 xsu14 : List Value} {xsn14 : List Str} {xab14 : Bool} {xco14 : Option Bool} {xdd14 : Option Addr} {xm014 xm114 xm214 xm314 xm514 : Option Value} {xfI14 : Addr} {xfc14 xfd14 xfp14 xfv14 xft14 : Value} {xfo14 xfa14 : Option Addr} {xfs14 : Array (Option Value)} {Y0 : Addr}
    (a0 : PySem.W.nsIn K mainGlobals "_law_open" = some (some (.ref f0)))
    (l0 : K.lookup f0 = some ⟨oc0, od0, .func (PySem.W.fnOf "_law_open" "_law_open" (defArgs (top 18)) (defBody (top 18)) (defScope (top 18)) .none kV0 dc0 pm0 an0 cd0 ct0), sl0⟩)
    (c0 : PySem.W.codeIn K cd0 "_law_open" = true)
    (k0 : PySem.W.keepIn K (.ref f0) = true)
    (a1 : PySem.W.nsIn K mainGlobals "_law_draw" = some (some (.ref f1)))
    (l1 : K.lookup f1 = some ⟨oc1, od1, .func (PySem.W.fnOf "_law_draw" "_law_draw" (defArgs (top 19)) (defBody (top 19)) (defScope (top 19)) .none kV1 dc1 pm1 an1 cd1 ct1), sl1⟩)
    (c1 : PySem.W.codeIn K cd1 "_law_draw" = true)
    (k1 : PySem.W.keepIn K (.ref f1) = true)
    (a2 : PySem.W.nsIn K mainGlobals "_law_far" = some (some (.ref f2)))
    (l2 : K.lookup f2 = some ⟨oc2, od2, .func (PySem.W.fnOf "_law_far" "_law_far" (defArgs (top 20)) (defBody (top 20)) (defScope (top 20)) .none kV2 dc2 pm2 an2 cd2 ct2), sl2⟩)
    (c2 : PySem.W.codeIn K cd2 "_law_far" = true)
    (k2 : PySem.W.keepIn K (.ref f2) = true)
    (a3 : PySem.W.nsIn K mainGlobals "_law_letters" = some (some (.ref f3)))
    (l3 : K.lookup f3 = some ⟨oc3, od3, .func (PySem.W.fnOf "_law_letters" "_law_letters" (defArgs (top 21)) (defBody (top 21)) (defScope (top 21)) .none kV3 dc3 pm3 an3 cd3 ct3), sl3⟩)
    (c3 : PySem.W.codeIn K cd3 "_law_letters" = true)
    (k3 : PySem.W.keepIn K (.ref f3) = true)
    (a4 : PySem.W.nsIn K mainGlobals "_law_raised" = some (some (.ref f4)))
    (l4 : K.lookup f4 = some ⟨oc4, od4, .func (PySem.W.fnOf "_law_raised" "_law_raised" (defArgs (top 22)) (defBody (top 22)) (defScope (top 22)) .none kV4 dc4 pm4 an4 cd4 ct4), sl4⟩)
    (c4 : PySem.W.codeIn K cd4 "_law_raised" = true)
    (k4 : PySem.W.keepIn K (.ref f4) = true)
    (a5 : PySem.W.nsIn K mainGlobals "_law_kinds" = some (some (.ref f5)))
    (l5 : K.lookup f5 = some ⟨oc5, od5, .func (PySem.W.fnOf "_law_kinds" "_law_kinds" (defArgs (top 23)) (defBody (top 23)) (defScope (top 23)) .none kV5 dc5 pm5 an5 cd5 ct5), sl5⟩)
    (c5 : PySem.W.codeIn K cd5 "_law_kinds" = true)
    (k5 : PySem.W.keepIn K (.ref f5) = true)
    (a6 : PySem.W.nsIn K mainGlobals "_law_at" = some (some (.ref f6)))
    (l6 : K.lookup f6 = some ⟨oc6, od6, .func (PySem.W.fnOf "_law_at" "_law_at" (defArgs (top 24)) (defBody (top 24)) (defScope (top 24)) .none kV6 dc6 pm6 an6 cd6 ct6), sl6⟩)
    (c6 : PySem.W.codeIn K cd6 "_law_at" = true)
    (k6 : PySem.W.keepIn K (.ref f6) = true)
    (a7 : PySem.W.nsIn K mainGlobals "_law_wanted" = some (some (.ref f7)))
    (l7 : K.lookup f7 = some ⟨oc7, od7, .func (PySem.W.fnOf "_law_wanted" "_law_wanted" (defArgs (top 25)) (defBody (top 25)) (defScope (top 25)) .none kV7 dc7 pm7 an7 cd7 ct7), sl7⟩)
    (c7 : PySem.W.codeIn K cd7 "_law_wanted" = true)
    (k7 : PySem.W.keepIn K (.ref f7) = true)
    (a8 : PySem.W.nsIn K mainGlobals "_law_name" = some (some (.ref f8)))
    (l8 : K.lookup f8 = some ⟨oc8, od8, .func (PySem.W.fnOf "_law_name" "_law_name" (defArgs (top 26)) (defBody (top 26)) (defScope (top 26)) .none kV8 dc8 pm8 an8 cd8 ct8), sl8⟩)
    (c8 : PySem.W.codeIn K cd8 "_law_name" = true)
    (k8 : PySem.W.keepIn K (.ref f8) = true)
    (a9 : PySem.W.nsIn K mainGlobals "_law_is" = some (some (.ref f9)))
    (l9 : K.lookup f9 = some ⟨oc9, od9, .func (PySem.W.fnOf "_law_is" "_law_is" (defArgs (top 27)) (defBody (top 27)) (defScope (top 27)) .none kV9 dc9 pm9 an9 cd9 ct9), sl9⟩)
    (c9 : PySem.W.codeIn K cd9 "_law_is" = true)
    (k9 : PySem.W.keepIn K (.ref f9) = true)
    (a10 : PySem.W.nsIn K mainGlobals "law" = some (some (.ref f10)))
    (l10 : K.lookup f10 = some ⟨oc10, od10, .func (PySem.W.fnOf "law" "law" (defArgs (top 28)) (defBody (top 28)) (defScope (top 28)) .none kV10 dc10 pm10 an10 cd10 ct10), sl10⟩)
    (c10 : PySem.W.codeIn K cd10 "law" = true)
    (k10 : PySem.W.keepIn K (.ref f10) = true)
    (xA0 : PySem.W.nsIn K mainGlobals "Late" = some (some (.ref X0)))
    (xg0 : PySem.W.findIn K (.ref X0) "__getattribute__" = some (some (.builtin "BaseException.__getattribute__")))
    (xh0 : PySem.W.findIn K (.ref X0) "__getattr__" = some none)
    (xk0 : PySem.W.keepIn K (.ref X0) = true)
    (xe0 : PySem.W.subIn K (.ref X0) (.type "BaseException") = some true)
    (xy0 : PySem.W.typeIn K (.ref X0) = some (.type "type"))
    (xd0 : PySem.W.hasDictIn K X0 = true)
    (xw0 : PySem.W.subIn K (.ref X0) (.ref X0) = some true)
    (xo0 : PySem.W.findIn K (.ref X0) "__class__" = some (some (.builtin "object.__class__")))
    (xm0 : PySem.W.mroIn K X0 (.type "object") = some true)
    (xq0 : PySem.W.excIn K X0 [.type "ValueError", .type "Exception", .type "BaseException", .type "object"] "ValueError.__new__" = true)
    (xA1 : PySem.W.nsIn K mainGlobals "Fixed" = some (some (.ref X1)))
    (xg1 : PySem.W.findIn K (.ref X1) "__getattribute__" = some (some (.builtin "BaseException.__getattribute__")))
    (xh1 : PySem.W.findIn K (.ref X1) "__getattr__" = some none)
    (xk1 : PySem.W.keepIn K (.ref X1) = true)
    (xe1 : PySem.W.subIn K (.ref X1) (.type "BaseException") = some true)
    (xy1 : PySem.W.typeIn K (.ref X1) = some (.type "type"))
    (xd1 : PySem.W.hasDictIn K X1 = true)
    (xw1 : PySem.W.subIn K (.ref X1) (.ref X1) = some true)
    (xo1 : PySem.W.findIn K (.ref X1) "__class__" = some (some (.builtin "object.__class__")))
    (xm1 : PySem.W.mroIn K X1 (.type "object") = some true)
    (xq1 : PySem.W.excIn K X1 [.type "ValueError", .type "Exception", .type "BaseException", .type "object"] "ValueError.__new__" = true)
    (xA2 : PySem.W.nsIn K mainGlobals "BackMark" = some (some (.ref X2)))
    (xg2 : PySem.W.findIn K (.ref X2) "__getattribute__" = some (some (.builtin "BaseException.__getattribute__")))
    (xh2 : PySem.W.findIn K (.ref X2) "__getattr__" = some none)
    (xk2 : PySem.W.keepIn K (.ref X2) = true)
    (xe2 : PySem.W.subIn K (.ref X2) (.type "BaseException") = some true)
    (xy2 : PySem.W.typeIn K (.ref X2) = some (.type "type"))
    (xd2 : PySem.W.hasDictIn K X2 = true)
    (xw2 : PySem.W.subIn K (.ref X2) (.ref X2) = some true)
    (xo2 : PySem.W.findIn K (.ref X2) "__class__" = some (some (.builtin "object.__class__")))
    (xm2 : PySem.W.mroIn K X2 (.type "object") = some true)
    (xq2 : PySem.W.excIn K X2 [.type "ValueError", .type "Exception", .type "BaseException", .type "object"] "ValueError.__new__" = true)
    (xA3 : PySem.W.nsIn K mainGlobals "NotLoose" = some (some (.ref X3)))
    (xg3 : PySem.W.findIn K (.ref X3) "__getattribute__" = some (some (.builtin "BaseException.__getattribute__")))
    (xh3 : PySem.W.findIn K (.ref X3) "__getattr__" = some none)
    (xk3 : PySem.W.keepIn K (.ref X3) = true)
    (xe3 : PySem.W.subIn K (.ref X3) (.type "BaseException") = some true)
    (xy3 : PySem.W.typeIn K (.ref X3) = some (.type "type"))
    (xd3 : PySem.W.hasDictIn K X3 = true)
    (xw3 : PySem.W.subIn K (.ref X3) (.ref X3) = some true)
    (xo3 : PySem.W.findIn K (.ref X3) "__class__" = some (some (.builtin "object.__class__")))
    (xm3 : PySem.W.mroIn K X3 (.type "object") = some true)
    (xq3 : PySem.W.excIn K X3 [.type "ValueError", .type "Exception", .type "BaseException", .type "object"] "ValueError.__new__" = true)
    (xA4 : PySem.W.nsIn K mainGlobals "NoText" = some (some (.ref X4)))
    (xg4 : PySem.W.findIn K (.ref X4) "__getattribute__" = some (some (.builtin "BaseException.__getattribute__")))
    (xh4 : PySem.W.findIn K (.ref X4) "__getattr__" = some none)
    (xk4 : PySem.W.keepIn K (.ref X4) = true)
    (xe4 : PySem.W.subIn K (.ref X4) (.type "BaseException") = some true)
    (xy4 : PySem.W.typeIn K (.ref X4) = some (.type "type"))
    (xd4 : PySem.W.hasDictIn K X4 = true)
    (xw4 : PySem.W.subIn K (.ref X4) (.ref X4) = some true)
    (xo4 : PySem.W.findIn K (.ref X4) "__class__" = some (some (.builtin "object.__class__")))
    (xm4 : PySem.W.mroIn K X4 (.type "object") = some true)
    (xl4 : K.lookup X4 = some (excClassObj xn4 xv4 X4 xN4 xbs4 xbm4 true xsn4 xsu4 xab4 xco4 xdd4 xm04 xm14 xm24 xm34 xm54 "ValueError.__new__"))
    (xr4 : PySem.HandSPX.refsVE xbm4 = true)
    (xs4 : PySem.W.findIn K (.ref X4) "__setattr__" = some (some (.builtin "object.__setattr__")))
    (xj4 : PySem.W.findIn K (.ref X4) "at" = some none)
    (xi4 : PySem.W.findIn K (.ref X4) "__init__" = some (some (.ref xfI4)))
    (xt4 : PySem.W.typeIn K (.ref xfI4) = some (.type "function"))
    (xf4 : K.lookup xfI4 = some ⟨xfc4, xfo4, .func (PySem.W.fnOf "__init__" "NoText.__init__" (PySem.OwnX_at.iA ⟨14, 17, 14, 21⟩ ⟨14, 23, 14, 25⟩) (PySem.OwnX_at.iB ⟨15, 8, 15, 12⟩ ⟨15, 8, 15, 15⟩ ⟨15, 18, 15, 20⟩ ⟨15, 8, 15, 20⟩) PySem.OwnX_at.iS .none .none xfd4 xfp4 xfa4 xfv4 xft4), xfs4⟩)
    (xz4 : PySem.W.codeIn K xfv4 "NoText.__init__" = true)
    (xA5 : PySem.W.nsIn K mainGlobals "NoName" = some (some (.ref X5)))
    (xg5 : PySem.W.findIn K (.ref X5) "__getattribute__" = some (some (.builtin "BaseException.__getattribute__")))
    (xh5 : PySem.W.findIn K (.ref X5) "__getattr__" = some none)
    (xk5 : PySem.W.keepIn K (.ref X5) = true)
    (xe5 : PySem.W.subIn K (.ref X5) (.type "BaseException") = some true)
    (xy5 : PySem.W.typeIn K (.ref X5) = some (.type "type"))
    (xd5 : PySem.W.hasDictIn K X5 = true)
    (xw5 : PySem.W.subIn K (.ref X5) (.ref X5) = some true)
    (xo5 : PySem.W.findIn K (.ref X5) "__class__" = some (some (.builtin "object.__class__")))
    (xm5 : PySem.W.mroIn K X5 (.type "object") = some true)
    (xl5 : K.lookup X5 = some (excClassObj xn5 xv5 X5 xN5 xbs5 xbm5 true xsn5 xsu5 xab5 xco5 xdd5 xm05 xm15 xm25 xm35 xm55 "ValueError.__new__"))
    (xr5 : PySem.HandSPX.refsVE xbm5 = true)
    (xs5 : PySem.W.findIn K (.ref X5) "__setattr__" = some (some (.builtin "object.__setattr__")))
    (xj5 : PySem.W.findIn K (.ref X5) "name" = some none)
    (xi5 : PySem.W.findIn K (.ref X5) "__init__" = some (some (.ref xfI5)))
    (xt5 : PySem.W.typeIn K (.ref xfI5) = some (.type "function"))
    (xf5 : K.lookup xfI5 = some ⟨xfc5, xfo5, .func (PySem.W.fnOf "__init__" "NoName.__init__" (PySem.OwnX_name.iA ⟨18, 17, 18, 21⟩ ⟨18, 23, 18, 27⟩) (PySem.OwnX_name.iB ⟨19, 8, 19, 12⟩ ⟨19, 8, 19, 17⟩ ⟨19, 20, 19, 24⟩ ⟨19, 8, 19, 24⟩) PySem.OwnX_name.iS .none .none xfd5 xfp5 xfa5 xfv5 xft5), xfs5⟩)
    (xz5 : PySem.W.codeIn K xfv5 "NoName.__init__" = true)
    (xA6 : PySem.W.nsIn K mainGlobals "NoRoad" = some (some (.ref X6)))
    (xg6 : PySem.W.findIn K (.ref X6) "__getattribute__" = some (some (.builtin "BaseException.__getattribute__")))
    (xh6 : PySem.W.findIn K (.ref X6) "__getattr__" = some none)
    (xk6 : PySem.W.keepIn K (.ref X6) = true)
    (xe6 : PySem.W.subIn K (.ref X6) (.type "BaseException") = some true)
    (xy6 : PySem.W.typeIn K (.ref X6) = some (.type "type"))
    (xd6 : PySem.W.hasDictIn K X6 = true)
    (xw6 : PySem.W.subIn K (.ref X6) (.ref X6) = some true)
    (xo6 : PySem.W.findIn K (.ref X6) "__class__" = some (some (.builtin "object.__class__")))
    (xm6 : PySem.W.mroIn K X6 (.type "object") = some true)
    (xl6 : K.lookup X6 = some (excClassObj xn6 xv6 X6 xN6 xbs6 xbm6 true xsn6 xsu6 xab6 xco6 xdd6 xm06 xm16 xm26 xm36 xm56 "ValueError.__new__"))
    (xr6 : PySem.HandSPX.refsVE xbm6 = true)
    (xs6 : PySem.W.findIn K (.ref X6) "__setattr__" = some (some (.builtin "object.__setattr__")))
    (xj6 : PySem.W.findIn K (.ref X6) "name" = some none)
    (xi6 : PySem.W.findIn K (.ref X6) "__init__" = some (some (.ref xfI6)))
    (xt6 : PySem.W.typeIn K (.ref xfI6) = some (.type "function"))
    (xf6 : K.lookup xfI6 = some ⟨xfc6, xfo6, .func (PySem.W.fnOf "__init__" "NoRoad.__init__" (PySem.OwnX_name.iA ⟨22, 17, 22, 21⟩ ⟨22, 23, 22, 27⟩) (PySem.OwnX_name.iB ⟨23, 8, 23, 12⟩ ⟨23, 8, 23, 17⟩ ⟨23, 20, 23, 24⟩ ⟨23, 8, 23, 24⟩) PySem.OwnX_name.iS .none .none xfd6 xfp6 xfa6 xfv6 xft6), xfs6⟩)
    (xz6 : PySem.W.codeIn K xfv6 "NoRoad.__init__" = true)
    (xA7 : PySem.W.nsIn K mainGlobals "Taken" = some (some (.ref X7)))
    (xg7 : PySem.W.findIn K (.ref X7) "__getattribute__" = some (some (.builtin "BaseException.__getattribute__")))
    (xh7 : PySem.W.findIn K (.ref X7) "__getattr__" = some none)
    (xk7 : PySem.W.keepIn K (.ref X7) = true)
    (xe7 : PySem.W.subIn K (.ref X7) (.type "BaseException") = some true)
    (xy7 : PySem.W.typeIn K (.ref X7) = some (.type "type"))
    (xd7 : PySem.W.hasDictIn K X7 = true)
    (xw7 : PySem.W.subIn K (.ref X7) (.ref X7) = some true)
    (xo7 : PySem.W.findIn K (.ref X7) "__class__" = some (some (.builtin "object.__class__")))
    (xm7 : PySem.W.mroIn K X7 (.type "object") = some true)
    (xl7 : K.lookup X7 = some (excClassObj xn7 xv7 X7 xN7 xbs7 xbm7 true xsn7 xsu7 xab7 xco7 xdd7 xm07 xm17 xm27 xm37 xm57 "ValueError.__new__"))
    (xr7 : PySem.HandSPX.refsVE xbm7 = true)
    (xs7 : PySem.W.findIn K (.ref X7) "__setattr__" = some (some (.builtin "object.__setattr__")))
    (xj7 : PySem.W.findIn K (.ref X7) "name" = some none)
    (xi7 : PySem.W.findIn K (.ref X7) "__init__" = some (some (.ref xfI7)))
    (xt7 : PySem.W.typeIn K (.ref xfI7) = some (.type "function"))
    (xf7 : K.lookup xfI7 = some ⟨xfc7, xfo7, .func (PySem.W.fnOf "__init__" "Taken.__init__" (PySem.OwnX_name.iA ⟨26, 17, 26, 21⟩ ⟨26, 23, 26, 27⟩) (PySem.OwnX_name.iB ⟨27, 8, 27, 12⟩ ⟨27, 8, 27, 17⟩ ⟨27, 20, 27, 24⟩ ⟨27, 8, 27, 24⟩) PySem.OwnX_name.iS .none .none xfd7 xfp7 xfa7 xfv7 xft7), xfs7⟩)
    (xz7 : PySem.W.codeIn K xfv7 "Taken.__init__" = true)
    (xA8 : PySem.W.nsIn K mainGlobals "Gap" = some (some (.ref X8)))
    (xg8 : PySem.W.findIn K (.ref X8) "__getattribute__" = some (some (.builtin "BaseException.__getattribute__")))
    (xh8 : PySem.W.findIn K (.ref X8) "__getattr__" = some none)
    (xk8 : PySem.W.keepIn K (.ref X8) = true)
    (xe8 : PySem.W.subIn K (.ref X8) (.type "BaseException") = some true)
    (xy8 : PySem.W.typeIn K (.ref X8) = some (.type "type"))
    (xd8 : PySem.W.hasDictIn K X8 = true)
    (xw8 : PySem.W.subIn K (.ref X8) (.ref X8) = some true)
    (xo8 : PySem.W.findIn K (.ref X8) "__class__" = some (some (.builtin "object.__class__")))
    (xm8 : PySem.W.mroIn K X8 (.type "object") = some true)
    (xl8 : K.lookup X8 = some (excClassObj xn8 xv8 X8 xN8 xbs8 xbm8 true xsn8 xsu8 xab8 xco8 xdd8 xm08 xm18 xm28 xm38 xm58 "ValueError.__new__"))
    (xr8 : PySem.HandSPX.refsVE xbm8 = true)
    (xs8 : PySem.W.findIn K (.ref X8) "__setattr__" = some (some (.builtin "object.__setattr__")))
    (xj8 : PySem.W.findIn K (.ref X8) "wanted" = some none)
    (xi8 : PySem.W.findIn K (.ref X8) "__init__" = some (some (.ref xfI8)))
    (xt8 : PySem.W.typeIn K (.ref xfI8) = some (.type "function"))
    (xf8 : K.lookup xfI8 = some ⟨xfc8, xfo8, .func (PySem.W.fnOf "__init__" "Gap.__init__" (PySem.OwnX_wanted.iA ⟨30, 17, 30, 21⟩ ⟨30, 23, 30, 29⟩) (PySem.OwnX_wanted.iB ⟨31, 8, 31, 12⟩ ⟨31, 8, 31, 19⟩ ⟨31, 22, 31, 28⟩ ⟨31, 8, 31, 28⟩) PySem.OwnX_wanted.iS .none .none xfd8 xfp8 xfa8 xfv8 xft8), xfs8⟩)
    (xz8 : PySem.W.codeIn K xfv8 "Gap.__init__" = true)
    (xA9 : PySem.W.nsIn K mainGlobals "Ended" = some (some (.ref X9)))
    (xg9 : PySem.W.findIn K (.ref X9) "__getattribute__" = some (some (.builtin "BaseException.__getattribute__")))
    (xh9 : PySem.W.findIn K (.ref X9) "__getattr__" = some none)
    (xk9 : PySem.W.keepIn K (.ref X9) = true)
    (xe9 : PySem.W.subIn K (.ref X9) (.type "BaseException") = some true)
    (xy9 : PySem.W.typeIn K (.ref X9) = some (.type "type"))
    (xd9 : PySem.W.hasDictIn K X9 = true)
    (xw9 : PySem.W.subIn K (.ref X9) (.ref X9) = some true)
    (xo9 : PySem.W.findIn K (.ref X9) "__class__" = some (some (.builtin "object.__class__")))
    (xm9 : PySem.W.mroIn K X9 (.type "object") = some true)
    (xq9 : PySem.W.excIn K X9 [.type "ValueError", .type "Exception", .type "BaseException", .type "object"] "ValueError.__new__" = true)
    (xA10 : PySem.W.nsIn K mainGlobals "Begun" = some (some (.ref X10)))
    (xg10 : PySem.W.findIn K (.ref X10) "__getattribute__" = some (some (.builtin "BaseException.__getattribute__")))
    (xh10 : PySem.W.findIn K (.ref X10) "__getattr__" = some none)
    (xk10 : PySem.W.keepIn K (.ref X10) = true)
    (xe10 : PySem.W.subIn K (.ref X10) (.type "BaseException") = some true)
    (xy10 : PySem.W.typeIn K (.ref X10) = some (.type "type"))
    (xd10 : PySem.W.hasDictIn K X10 = true)
    (xw10 : PySem.W.subIn K (.ref X10) (.ref X10) = some true)
    (xo10 : PySem.W.findIn K (.ref X10) "__class__" = some (some (.builtin "object.__class__")))
    (xm10 : PySem.W.mroIn K X10 (.type "object") = some true)
    (xq10 : PySem.W.excIn K X10 [.type "ValueError", .type "Exception", .type "BaseException", .type "object"] "ValueError.__new__" = true)
    (xA11 : PySem.W.nsIn K mainGlobals "NoQuestion" = some (some (.ref X11)))
    (xg11 : PySem.W.findIn K (.ref X11) "__getattribute__" = some (some (.builtin "BaseException.__getattribute__")))
    (xh11 : PySem.W.findIn K (.ref X11) "__getattr__" = some none)
    (xk11 : PySem.W.keepIn K (.ref X11) = true)
    (xe11 : PySem.W.subIn K (.ref X11) (.type "BaseException") = some true)
    (xy11 : PySem.W.typeIn K (.ref X11) = some (.type "type"))
    (xd11 : PySem.W.hasDictIn K X11 = true)
    (xw11 : PySem.W.subIn K (.ref X11) (.ref X11) = some true)
    (xo11 : PySem.W.findIn K (.ref X11) "__class__" = some (some (.builtin "object.__class__")))
    (xm11 : PySem.W.mroIn K X11 (.type "object") = some true)
    (xl11 : K.lookup X11 = some (excClassObj xn11 xv11 X11 xN11 xbs11 xbm11 true xsn11 xsu11 xab11 xco11 xdd11 xm011 xm111 xm211 xm311 xm511 "ValueError.__new__"))
    (xr11 : PySem.HandSPX.refsVE xbm11 = true)
    (xs11 : PySem.W.findIn K (.ref X11) "__setattr__" = some (some (.builtin "object.__setattr__")))
    (xj11 : PySem.W.findIn K (.ref X11) "at" = some none)
    (xi11 : PySem.W.findIn K (.ref X11) "__init__" = some (some (.ref xfI11)))
    (xt11 : PySem.W.typeIn K (.ref xfI11) = some (.type "function"))
    (xf11 : K.lookup xfI11 = some ⟨xfc11, xfo11, .func (PySem.W.fnOf "__init__" "NoQuestion.__init__" (PySem.OwnX_at.iA ⟨38, 17, 38, 21⟩ ⟨38, 23, 38, 25⟩) (PySem.OwnX_at.iB ⟨39, 8, 39, 12⟩ ⟨39, 8, 39, 15⟩ ⟨39, 18, 39, 20⟩ ⟨39, 8, 39, 20⟩) PySem.OwnX_at.iS .none .none xfd11 xfp11 xfa11 xfv11 xft11), xfs11⟩)
    (xz11 : PySem.W.codeIn K xfv11 "NoQuestion.__init__" = true)
    (xA12 : PySem.W.nsIn K mainGlobals "NoKeep" = some (some (.ref X12)))
    (xg12 : PySem.W.findIn K (.ref X12) "__getattribute__" = some (some (.builtin "BaseException.__getattribute__")))
    (xh12 : PySem.W.findIn K (.ref X12) "__getattr__" = some none)
    (xk12 : PySem.W.keepIn K (.ref X12) = true)
    (xe12 : PySem.W.subIn K (.ref X12) (.type "BaseException") = some true)
    (xy12 : PySem.W.typeIn K (.ref X12) = some (.type "type"))
    (xd12 : PySem.W.hasDictIn K X12 = true)
    (xw12 : PySem.W.subIn K (.ref X12) (.ref X12) = some true)
    (xo12 : PySem.W.findIn K (.ref X12) "__class__" = some (some (.builtin "object.__class__")))
    (xm12 : PySem.W.mroIn K X12 (.type "object") = some true)
    (xq12 : PySem.W.excIn K X12 [.type "ValueError", .type "Exception", .type "BaseException", .type "object"] "ValueError.__new__" = true)
    (xA13 : PySem.W.nsIn K mainGlobals "NoLine" = some (some (.ref X13)))
    (xg13 : PySem.W.findIn K (.ref X13) "__getattribute__" = some (some (.builtin "BaseException.__getattribute__")))
    (xh13 : PySem.W.findIn K (.ref X13) "__getattr__" = some none)
    (xk13 : PySem.W.keepIn K (.ref X13) = true)
    (xe13 : PySem.W.subIn K (.ref X13) (.type "BaseException") = some true)
    (xy13 : PySem.W.typeIn K (.ref X13) = some (.type "type"))
    (xd13 : PySem.W.hasDictIn K X13 = true)
    (xw13 : PySem.W.subIn K (.ref X13) (.ref X13) = some true)
    (xo13 : PySem.W.findIn K (.ref X13) "__class__" = some (some (.builtin "object.__class__")))
    (xm13 : PySem.W.mroIn K X13 (.type "object") = some true)
    (xq13 : PySem.W.excIn K X13 [.type "ValueError", .type "Exception", .type "BaseException", .type "object"] "ValueError.__new__" = true)
    (xA14 : PySem.W.nsIn K mainGlobals "Untaken" = some (some (.ref X14)))
    (xg14 : PySem.W.findIn K (.ref X14) "__getattribute__" = some (some (.builtin "BaseException.__getattribute__")))
    (xh14 : PySem.W.findIn K (.ref X14) "__getattr__" = some none)
    (xk14 : PySem.W.keepIn K (.ref X14) = true)
    (xe14 : PySem.W.subIn K (.ref X14) (.type "BaseException") = some true)
    (xy14 : PySem.W.typeIn K (.ref X14) = some (.type "type"))
    (xd14 : PySem.W.hasDictIn K X14 = true)
    (xw14 : PySem.W.subIn K (.ref X14) (.ref X14) = some true)
    (xo14 : PySem.W.findIn K (.ref X14) "__class__" = some (some (.builtin "object.__class__")))
    (xm14 : PySem.W.mroIn K X14 (.type "object") = some true)
    (xl14 : K.lookup X14 = some (excClassObj xn14 xv14 X14 xN14 xbs14 xbm14 true xsn14 xsu14 xab14 xco14 xdd14 xm014 xm114 xm214 xm314 xm514 "ValueError.__new__"))
    (xr14 : PySem.HandSPX.refsVE xbm14 = true)
    (xs14 : PySem.W.findIn K (.ref X14) "__setattr__" = some (some (.builtin "object.__setattr__")))
    (xj14 : PySem.W.findIn K (.ref X14) "wanted" = some none)
    (xi14 : PySem.W.findIn K (.ref X14) "__init__" = some (some (.ref xfI14)))
    (xt14 : PySem.W.typeIn K (.ref xfI14) = some (.type "function"))
    (xf14 : K.lookup xfI14 = some ⟨xfc14, xfo14, .func (PySem.W.fnOf "__init__" "Untaken.__init__" (PySem.OwnX_wanted.iA ⟨46, 17, 46, 21⟩ ⟨46, 23, 46, 29⟩) (PySem.OwnX_wanted.iB ⟨47, 8, 47, 12⟩ ⟨47, 8, 47, 19⟩ ⟨47, 22, 47, 28⟩ ⟨47, 8, 47, 28⟩) PySem.OwnX_wanted.iS .none .none xfd14 xfp14 xfa14 xfv14 xft14), xfs14⟩)
    (xz14 : PySem.W.codeIn K xfv14 "Untaken.__init__" = true)
    (xhn : PySem.W.specialIn K (.builtin "object.__class__") "__get__" = some (some (.builtin "getset_descriptor.__get__")))
    (xht : PySem.W.takesIn K (.builtin "object.__class__") = some true)
    (yA0 : PySem.W.nsIn K mainGlobals "WeirError" = some (some (.ref Y0)))
    (ye0 : PySem.W.subIn K (.ref Y0) (.type "BaseException") = some true)
    (yd0 : PySem.W.hasDictIn K Y0 = true)
    (yy0 : PySem.W.typeIn K (.ref Y0) = some (.type "type"))
    (yw0 : PySem.W.subIn K (.ref Y0) (.ref Y0) = some true)
    (yve : PySem.W.subIn K (.type "ValueError") (.type "BaseException") = some true)
    (yvn : PySem.W.nsIn K mainGlobals "ValueError" = some none)
    (xx0 : PySem.W.subIn K (.ref X0) (.ref X0) = some true)
    (xx1 : PySem.W.subIn K (.ref X1) (.ref X0) = some false)
    (xx2 : PySem.W.subIn K (.ref X2) (.ref X0) = some false)
    (xx3 : PySem.W.subIn K (.ref X3) (.ref X0) = some false)
    (xx4 : PySem.W.subIn K (.ref X4) (.ref X0) = some false)
    (xx5 : PySem.W.subIn K (.ref X5) (.ref X0) = some false)
    (xx6 : PySem.W.subIn K (.ref X6) (.ref X0) = some false)
    (xx7 : PySem.W.subIn K (.ref X7) (.ref X0) = some false)
    (xx8 : PySem.W.subIn K (.ref X8) (.ref X0) = some false)
    (xx9 : PySem.W.subIn K (.ref X9) (.ref X0) = some false)
    (xx10 : PySem.W.subIn K (.ref X10) (.ref X0) = some false)
    (xx11 : PySem.W.subIn K (.ref X11) (.ref X0) = some false)
    (xx12 : PySem.W.subIn K (.ref X12) (.ref X0) = some false)
    (xx13 : PySem.W.subIn K (.ref X13) (.ref X0) = some false)
    (xx14 : PySem.W.subIn K (.ref X14) (.ref X0) = some false)
    (xx15 : PySem.W.subIn K (.ref X0) (.ref X1) = some false)
    (xx16 : PySem.W.subIn K (.ref X1) (.ref X1) = some true)
    (xx17 : PySem.W.subIn K (.ref X2) (.ref X1) = some false)
    (xx18 : PySem.W.subIn K (.ref X3) (.ref X1) = some false)
    (xx19 : PySem.W.subIn K (.ref X4) (.ref X1) = some false)
    (xx20 : PySem.W.subIn K (.ref X5) (.ref X1) = some false)
    (xx21 : PySem.W.subIn K (.ref X6) (.ref X1) = some false)
    (xx22 : PySem.W.subIn K (.ref X7) (.ref X1) = some false)
    (xx23 : PySem.W.subIn K (.ref X8) (.ref X1) = some false)
    (xx24 : PySem.W.subIn K (.ref X9) (.ref X1) = some false)
    (xx25 : PySem.W.subIn K (.ref X10) (.ref X1) = some false)
    (xx26 : PySem.W.subIn K (.ref X11) (.ref X1) = some false)
    (xx27 : PySem.W.subIn K (.ref X12) (.ref X1) = some false)
    (xx28 : PySem.W.subIn K (.ref X13) (.ref X1) = some false)
    (xx29 : PySem.W.subIn K (.ref X14) (.ref X1) = some false)
    (xx30 : PySem.W.subIn K (.ref X0) (.ref X2) = some false)
    (xx31 : PySem.W.subIn K (.ref X1) (.ref X2) = some false)
    (xx32 : PySem.W.subIn K (.ref X2) (.ref X2) = some true)
    (xx33 : PySem.W.subIn K (.ref X3) (.ref X2) = some false)
    (xx34 : PySem.W.subIn K (.ref X4) (.ref X2) = some false)
    (xx35 : PySem.W.subIn K (.ref X5) (.ref X2) = some false)
    (xx36 : PySem.W.subIn K (.ref X6) (.ref X2) = some false)
    (xx37 : PySem.W.subIn K (.ref X7) (.ref X2) = some false)
    (xx38 : PySem.W.subIn K (.ref X8) (.ref X2) = some false)
    (xx39 : PySem.W.subIn K (.ref X9) (.ref X2) = some false)
    (xx40 : PySem.W.subIn K (.ref X10) (.ref X2) = some false)
    (xx41 : PySem.W.subIn K (.ref X11) (.ref X2) = some false)
    (xx42 : PySem.W.subIn K (.ref X12) (.ref X2) = some false)
    (xx43 : PySem.W.subIn K (.ref X13) (.ref X2) = some false)
    (xx44 : PySem.W.subIn K (.ref X14) (.ref X2) = some false)
    (xx45 : PySem.W.subIn K (.ref X0) (.ref X3) = some false)
    (xx46 : PySem.W.subIn K (.ref X1) (.ref X3) = some false)
    (xx47 : PySem.W.subIn K (.ref X2) (.ref X3) = some false)
    (xx48 : PySem.W.subIn K (.ref X3) (.ref X3) = some true)
    (xx49 : PySem.W.subIn K (.ref X4) (.ref X3) = some false)
    (xx50 : PySem.W.subIn K (.ref X5) (.ref X3) = some false)
    (xx51 : PySem.W.subIn K (.ref X6) (.ref X3) = some false)
    (xx52 : PySem.W.subIn K (.ref X7) (.ref X3) = some false)
    (xx53 : PySem.W.subIn K (.ref X8) (.ref X3) = some false)
    (xx54 : PySem.W.subIn K (.ref X9) (.ref X3) = some false)
    (xx55 : PySem.W.subIn K (.ref X10) (.ref X3) = some false)
    (xx56 : PySem.W.subIn K (.ref X11) (.ref X3) = some false)
    (xx57 : PySem.W.subIn K (.ref X12) (.ref X3) = some false)
    (xx58 : PySem.W.subIn K (.ref X13) (.ref X3) = some false)
    (xx59 : PySem.W.subIn K (.ref X14) (.ref X3) = some false)
    (xx60 : PySem.W.subIn K (.ref X0) (.ref X4) = some false)
    (xx61 : PySem.W.subIn K (.ref X1) (.ref X4) = some false)
    (xx62 : PySem.W.subIn K (.ref X2) (.ref X4) = some false)
    (xx63 : PySem.W.subIn K (.ref X3) (.ref X4) = some false)
    (xx64 : PySem.W.subIn K (.ref X4) (.ref X4) = some true)
    (xx65 : PySem.W.subIn K (.ref X5) (.ref X4) = some false)
    (xx66 : PySem.W.subIn K (.ref X6) (.ref X4) = some false)
    (xx67 : PySem.W.subIn K (.ref X7) (.ref X4) = some false)
    (xx68 : PySem.W.subIn K (.ref X8) (.ref X4) = some false)
    (xx69 : PySem.W.subIn K (.ref X9) (.ref X4) = some false)
    (xx70 : PySem.W.subIn K (.ref X10) (.ref X4) = some false)
    (xx71 : PySem.W.subIn K (.ref X11) (.ref X4) = some false)
    (xx72 : PySem.W.subIn K (.ref X12) (.ref X4) = some false)
    (xx73 : PySem.W.subIn K (.ref X13) (.ref X4) = some false)
    (xx74 : PySem.W.subIn K (.ref X14) (.ref X4) = some false)
    (xx75 : PySem.W.subIn K (.ref X0) (.ref X5) = some false)
    (xx76 : PySem.W.subIn K (.ref X1) (.ref X5) = some false)
    (xx77 : PySem.W.subIn K (.ref X2) (.ref X5) = some false)
    (xx78 : PySem.W.subIn K (.ref X3) (.ref X5) = some false)
    (xx79 : PySem.W.subIn K (.ref X4) (.ref X5) = some false)
    (xx80 : PySem.W.subIn K (.ref X5) (.ref X5) = some true)
    (xx81 : PySem.W.subIn K (.ref X6) (.ref X5) = some false)
    (xx82 : PySem.W.subIn K (.ref X7) (.ref X5) = some false)
    (xx83 : PySem.W.subIn K (.ref X8) (.ref X5) = some false)
    (xx84 : PySem.W.subIn K (.ref X9) (.ref X5) = some false)
    (xx85 : PySem.W.subIn K (.ref X10) (.ref X5) = some false)
    (xx86 : PySem.W.subIn K (.ref X11) (.ref X5) = some false)
    (xx87 : PySem.W.subIn K (.ref X12) (.ref X5) = some false)
    (xx88 : PySem.W.subIn K (.ref X13) (.ref X5) = some false)
    (xx89 : PySem.W.subIn K (.ref X14) (.ref X5) = some false)
    (xx90 : PySem.W.subIn K (.ref X0) (.ref X6) = some false)
    (xx91 : PySem.W.subIn K (.ref X1) (.ref X6) = some false)
    (xx92 : PySem.W.subIn K (.ref X2) (.ref X6) = some false)
    (xx93 : PySem.W.subIn K (.ref X3) (.ref X6) = some false)
    (xx94 : PySem.W.subIn K (.ref X4) (.ref X6) = some false)
    (xx95 : PySem.W.subIn K (.ref X5) (.ref X6) = some false)
    (xx96 : PySem.W.subIn K (.ref X6) (.ref X6) = some true)
    (xx97 : PySem.W.subIn K (.ref X7) (.ref X6) = some false)
    (xx98 : PySem.W.subIn K (.ref X8) (.ref X6) = some false)
    (xx99 : PySem.W.subIn K (.ref X9) (.ref X6) = some false)
    (xx100 : PySem.W.subIn K (.ref X10) (.ref X6) = some false)
    (xx101 : PySem.W.subIn K (.ref X11) (.ref X6) = some false)
    (xx102 : PySem.W.subIn K (.ref X12) (.ref X6) = some false)
    (xx103 : PySem.W.subIn K (.ref X13) (.ref X6) = some false)
    (xx104 : PySem.W.subIn K (.ref X14) (.ref X6) = some false)
    (xx105 : PySem.W.subIn K (.ref X0) (.ref X7) = some false)
    (xx106 : PySem.W.subIn K (.ref X1) (.ref X7) = some false)
    (xx107 : PySem.W.subIn K (.ref X2) (.ref X7) = some false)
    (xx108 : PySem.W.subIn K (.ref X3) (.ref X7) = some false)
    (xx109 : PySem.W.subIn K (.ref X4) (.ref X7) = some false)
    (xx110 : PySem.W.subIn K (.ref X5) (.ref X7) = some false)
    (xx111 : PySem.W.subIn K (.ref X6) (.ref X7) = some false)
    (xx112 : PySem.W.subIn K (.ref X7) (.ref X7) = some true)
    (xx113 : PySem.W.subIn K (.ref X8) (.ref X7) = some false)
    (xx114 : PySem.W.subIn K (.ref X9) (.ref X7) = some false)
    (xx115 : PySem.W.subIn K (.ref X10) (.ref X7) = some false)
    (xx116 : PySem.W.subIn K (.ref X11) (.ref X7) = some false)
    (xx117 : PySem.W.subIn K (.ref X12) (.ref X7) = some false)
    (xx118 : PySem.W.subIn K (.ref X13) (.ref X7) = some false)
    (xx119 : PySem.W.subIn K (.ref X14) (.ref X7) = some false)
    (xx120 : PySem.W.subIn K (.ref X0) (.ref X8) = some false)
    (xx121 : PySem.W.subIn K (.ref X1) (.ref X8) = some false)
    (xx122 : PySem.W.subIn K (.ref X2) (.ref X8) = some false)
    (xx123 : PySem.W.subIn K (.ref X3) (.ref X8) = some false)
    (xx124 : PySem.W.subIn K (.ref X4) (.ref X8) = some false)
    (xx125 : PySem.W.subIn K (.ref X5) (.ref X8) = some false)
    (xx126 : PySem.W.subIn K (.ref X6) (.ref X8) = some false)
    (xx127 : PySem.W.subIn K (.ref X7) (.ref X8) = some false)
    (xx128 : PySem.W.subIn K (.ref X8) (.ref X8) = some true)
    (xx129 : PySem.W.subIn K (.ref X9) (.ref X8) = some false)
    (xx130 : PySem.W.subIn K (.ref X10) (.ref X8) = some false)
    (xx131 : PySem.W.subIn K (.ref X11) (.ref X8) = some false)
    (xx132 : PySem.W.subIn K (.ref X12) (.ref X8) = some false)
    (xx133 : PySem.W.subIn K (.ref X13) (.ref X8) = some false)
    (xx134 : PySem.W.subIn K (.ref X14) (.ref X8) = some false)
    (xx135 : PySem.W.subIn K (.ref X0) (.ref X9) = some false)
    (xx136 : PySem.W.subIn K (.ref X1) (.ref X9) = some false)
    (xx137 : PySem.W.subIn K (.ref X2) (.ref X9) = some false)
    (xx138 : PySem.W.subIn K (.ref X3) (.ref X9) = some false)
    (xx139 : PySem.W.subIn K (.ref X4) (.ref X9) = some false)
    (xx140 : PySem.W.subIn K (.ref X5) (.ref X9) = some false)
    (xx141 : PySem.W.subIn K (.ref X6) (.ref X9) = some false)
    (xx142 : PySem.W.subIn K (.ref X7) (.ref X9) = some false)
    (xx143 : PySem.W.subIn K (.ref X8) (.ref X9) = some false)
    (xx144 : PySem.W.subIn K (.ref X9) (.ref X9) = some true)
    (xx145 : PySem.W.subIn K (.ref X10) (.ref X9) = some false)
    (xx146 : PySem.W.subIn K (.ref X11) (.ref X9) = some false)
    (xx147 : PySem.W.subIn K (.ref X12) (.ref X9) = some false)
    (xx148 : PySem.W.subIn K (.ref X13) (.ref X9) = some false)
    (xx149 : PySem.W.subIn K (.ref X14) (.ref X9) = some false)
    (xx150 : PySem.W.subIn K (.ref X0) (.ref X10) = some false)
    (xx151 : PySem.W.subIn K (.ref X1) (.ref X10) = some false)
    (xx152 : PySem.W.subIn K (.ref X2) (.ref X10) = some false)
    (xx153 : PySem.W.subIn K (.ref X3) (.ref X10) = some false)
    (xx154 : PySem.W.subIn K (.ref X4) (.ref X10) = some false)
    (xx155 : PySem.W.subIn K (.ref X5) (.ref X10) = some false)
    (xx156 : PySem.W.subIn K (.ref X6) (.ref X10) = some false)
    (xx157 : PySem.W.subIn K (.ref X7) (.ref X10) = some false)
    (xx158 : PySem.W.subIn K (.ref X8) (.ref X10) = some false)
    (xx159 : PySem.W.subIn K (.ref X9) (.ref X10) = some false)
    (xx160 : PySem.W.subIn K (.ref X10) (.ref X10) = some true)
    (xx161 : PySem.W.subIn K (.ref X11) (.ref X10) = some false)
    (xx162 : PySem.W.subIn K (.ref X12) (.ref X10) = some false)
    (xx163 : PySem.W.subIn K (.ref X13) (.ref X10) = some false)
    (xx164 : PySem.W.subIn K (.ref X14) (.ref X10) = some false)
    (xx165 : PySem.W.subIn K (.ref X0) (.ref X11) = some false)
    (xx166 : PySem.W.subIn K (.ref X1) (.ref X11) = some false)
    (xx167 : PySem.W.subIn K (.ref X2) (.ref X11) = some false)
    (xx168 : PySem.W.subIn K (.ref X3) (.ref X11) = some false)
    (xx169 : PySem.W.subIn K (.ref X4) (.ref X11) = some false)
    (xx170 : PySem.W.subIn K (.ref X5) (.ref X11) = some false)
    (xx171 : PySem.W.subIn K (.ref X6) (.ref X11) = some false)
    (xx172 : PySem.W.subIn K (.ref X7) (.ref X11) = some false)
    (xx173 : PySem.W.subIn K (.ref X8) (.ref X11) = some false)
    (xx174 : PySem.W.subIn K (.ref X9) (.ref X11) = some false)
    (xx175 : PySem.W.subIn K (.ref X10) (.ref X11) = some false)
    (xx176 : PySem.W.subIn K (.ref X11) (.ref X11) = some true)
    (xx177 : PySem.W.subIn K (.ref X12) (.ref X11) = some false)
    (xx178 : PySem.W.subIn K (.ref X13) (.ref X11) = some false)
    (xx179 : PySem.W.subIn K (.ref X14) (.ref X11) = some false)
    (xx180 : PySem.W.subIn K (.ref X0) (.ref X12) = some false)
    (xx181 : PySem.W.subIn K (.ref X1) (.ref X12) = some false)
    (xx182 : PySem.W.subIn K (.ref X2) (.ref X12) = some false)
    (xx183 : PySem.W.subIn K (.ref X3) (.ref X12) = some false)
    (xx184 : PySem.W.subIn K (.ref X4) (.ref X12) = some false)
    (xx185 : PySem.W.subIn K (.ref X5) (.ref X12) = some false)
    (xx186 : PySem.W.subIn K (.ref X6) (.ref X12) = some false)
    (xx187 : PySem.W.subIn K (.ref X7) (.ref X12) = some false)
    (xx188 : PySem.W.subIn K (.ref X8) (.ref X12) = some false)
    (xx189 : PySem.W.subIn K (.ref X9) (.ref X12) = some false)
    (xx190 : PySem.W.subIn K (.ref X10) (.ref X12) = some false)
    (xx191 : PySem.W.subIn K (.ref X11) (.ref X12) = some false)
    (xx192 : PySem.W.subIn K (.ref X12) (.ref X12) = some true)
    (xx193 : PySem.W.subIn K (.ref X13) (.ref X12) = some false)
    (xx194 : PySem.W.subIn K (.ref X14) (.ref X12) = some false)
    (xx195 : PySem.W.subIn K (.ref X0) (.ref X13) = some false)
    (xx196 : PySem.W.subIn K (.ref X1) (.ref X13) = some false)
    (xx197 : PySem.W.subIn K (.ref X2) (.ref X13) = some false)
    (xx198 : PySem.W.subIn K (.ref X3) (.ref X13) = some false)
    (xx199 : PySem.W.subIn K (.ref X4) (.ref X13) = some false)
    (xx200 : PySem.W.subIn K (.ref X5) (.ref X13) = some false)
    (xx201 : PySem.W.subIn K (.ref X6) (.ref X13) = some false)
    (xx202 : PySem.W.subIn K (.ref X7) (.ref X13) = some false)
    (xx203 : PySem.W.subIn K (.ref X8) (.ref X13) = some false)
    (xx204 : PySem.W.subIn K (.ref X9) (.ref X13) = some false)
    (xx205 : PySem.W.subIn K (.ref X10) (.ref X13) = some false)
    (xx206 : PySem.W.subIn K (.ref X11) (.ref X13) = some false)
    (xx207 : PySem.W.subIn K (.ref X12) (.ref X13) = some false)
    (xx208 : PySem.W.subIn K (.ref X13) (.ref X13) = some true)
    (xx209 : PySem.W.subIn K (.ref X14) (.ref X13) = some false)
    (xx210 : PySem.W.subIn K (.ref X0) (.ref X14) = some false)
    (xx211 : PySem.W.subIn K (.ref X1) (.ref X14) = some false)
    (xx212 : PySem.W.subIn K (.ref X2) (.ref X14) = some false)
    (xx213 : PySem.W.subIn K (.ref X3) (.ref X14) = some false)
    (xx214 : PySem.W.subIn K (.ref X4) (.ref X14) = some false)
    (xx215 : PySem.W.subIn K (.ref X5) (.ref X14) = some false)
    (xx216 : PySem.W.subIn K (.ref X6) (.ref X14) = some false)
    (xx217 : PySem.W.subIn K (.ref X7) (.ref X14) = some false)
    (xx218 : PySem.W.subIn K (.ref X8) (.ref X14) = some false)
    (xx219 : PySem.W.subIn K (.ref X9) (.ref X14) = some false)
    (xx220 : PySem.W.subIn K (.ref X10) (.ref X14) = some false)
    (xx221 : PySem.W.subIn K (.ref X11) (.ref X14) = some false)
    (xx222 : PySem.W.subIn K (.ref X12) (.ref X14) = some false)
    (xx223 : PySem.W.subIn K (.ref X13) (.ref X14) = some false)
    (xx224 : PySem.W.subIn K (.ref X14) (.ref X14) = some true)
    (xx225 : PySem.W.subIn K (.ref X0) (.type "ValueError") = some true)
    (xx226 : PySem.W.subIn K (.ref X1) (.type "ValueError") = some true)
    (xx227 : PySem.W.subIn K (.ref X2) (.type "ValueError") = some true)
    (xx228 : PySem.W.subIn K (.ref X3) (.type "ValueError") = some true)
    (xx229 : PySem.W.subIn K (.ref X4) (.type "ValueError") = some true)
    (xx230 : PySem.W.subIn K (.ref X5) (.type "ValueError") = some true)
    (xx231 : PySem.W.subIn K (.ref X6) (.type "ValueError") = some true)
    (xx232 : PySem.W.subIn K (.ref X7) (.type "ValueError") = some true)
    (xx233 : PySem.W.subIn K (.ref X8) (.type "ValueError") = some true)
    (xx234 : PySem.W.subIn K (.ref X9) (.type "ValueError") = some true)
    (xx235 : PySem.W.subIn K (.ref X10) (.type "ValueError") = some true)
    (xx236 : PySem.W.subIn K (.ref X11) (.type "ValueError") = some true)
    (xx237 : PySem.W.subIn K (.ref X12) (.type "ValueError") = some true)
    (xx238 : PySem.W.subIn K (.ref X13) (.type "ValueError") = some true)
    (xx239 : PySem.W.subIn K (.ref X14) (.type "ValueError") = some true)
    (xx240 : PySem.W.subIn K (.ref X0) (.ref Y0) = some true)
    (xx241 : PySem.W.subIn K (.ref X1) (.ref Y0) = some true)
    (xx242 : PySem.W.subIn K (.ref X2) (.ref Y0) = some true)
    (xx243 : PySem.W.subIn K (.ref X3) (.ref Y0) = some true)
    (xx244 : PySem.W.subIn K (.ref X4) (.ref Y0) = some true)
    (xx245 : PySem.W.subIn K (.ref X5) (.ref Y0) = some true)
    (xx246 : PySem.W.subIn K (.ref X6) (.ref Y0) = some true)
    (xx247 : PySem.W.subIn K (.ref X7) (.ref Y0) = some true)
    (xx248 : PySem.W.subIn K (.ref X8) (.ref Y0) = some true)
    (xx249 : PySem.W.subIn K (.ref X9) (.ref Y0) = some true)
    (xx250 : PySem.W.subIn K (.ref X10) (.ref Y0) = some true)
    (xx251 : PySem.W.subIn K (.ref X11) (.ref Y0) = some true)
    (xx252 : PySem.W.subIn K (.ref X12) (.ref Y0) = some true)
    (xx253 : PySem.W.subIn K (.ref X13) (.ref Y0) = some true)
    (xx254 : PySem.W.subIn K (.ref X14) (.ref Y0) = some true)
    (z0 : PySem.W.nsIn K mainGlobals "abs" = some none)
    (z1 : PySem.W.nsIn K mainGlobals "bool" = some none)
    (z2 : PySem.W.nsIn K mainGlobals "int" = some none)
    (z3 : PySem.W.nsIn K mainGlobals "isinstance" = some none)
    (z4 : PySem.W.nsIn K mainGlobals "len" = some none)
    (z5 : PySem.W.nsIn K mainGlobals "range" = some none)
    (z6 : PySem.W.nsIn K mainGlobals "str" = some none)
    : ModOk K mg G P ∧ ∃ m fd, P.funs[10]? = some m ∧ Df K mg G m "law" fa fd ["_law_script"] := by
  have e := hfa.symm.trans (PySem.W.mg_of X Gn a10)
  cases e
  have d0 := df_mk (G := G) X Gn a0 l0 c0 k0 chk_0 (fun _ _ _ _ _ _ us hl => match us, hl with | [_, _], _ => rfl)
  have d1 := df_mk (G := G) X Gn a1 l1 c1 k1 chk_1 (fun _ _ _ _ _ _ us hl => match us, hl with | [_, _], _ => rfl)
  have d2 := df_mk (G := G) X Gn a2 l2 c2 k2 chk_2 (fun _ _ _ _ _ _ us hl => match us, hl with | [_, _], _ => rfl)
  have d3 := df_mk (G := G) X Gn a3 l3 c3 k3 chk_3 (fun _ _ _ _ _ _ us hl => match us, hl with | [_, _], _ => rfl)
  have d4 := df_mk (G := G) X Gn a4 l4 c4 k4 chk_4 (fun _ _ _ _ _ _ us hl => match us, hl with | [_, _, _], _ => rfl)
  have d5 := df_mk (G := G) X Gn a5 l5 c5 k5 chk_5 (fun _ _ _ _ _ _ us hl => match us, hl with | [_, _, _], _ => rfl)
  have d6 := df_mk (G := G) X Gn a6 l6 c6 k6 chk_6 (fun _ _ _ _ _ _ us hl => match us, hl with | [_, _], _ => rfl)
  have d7 := df_mk (G := G) X Gn a7 l7 c7 k7 chk_7 (fun _ _ _ _ _ _ us hl => match us, hl with | [_, _], _ => rfl)
  have d8 := df_mk (G := G) X Gn a8 l8 c8 k8 chk_8 (fun _ _ _ _ _ _ us hl => match us, hl with | [_, _], _ => rfl)
  have d9 := df_mk (G := G) X Gn a9 l9 c9 k9 chk_9 (fun _ _ _ _ _ _ us hl => match us, hl with | [_, _], _ => rfl)
  have d10 := df_mk (G := G) X Gn a10 l10 c10 k10 chk_10 (fun _ _ _ _ _ _ us hl => match us, hl with | [_], _ => rfl)
  refine ⟨⟨fun f x hf => ?_, fun x hx => ?_, fun p hp => ?_, fun c x hc => ?_, fun p hp => ?_, fun p hp => ?_, fun c x fs hc => ?_, fun p hp => ?_⟩, _, _, rfl, d10⟩
  · match f, hf with
    | 0, hf => cases hf; exact ⟨_, _, _, _, rfl, d0⟩
    | 1, hf => cases hf; exact ⟨_, _, _, _, rfl, d1⟩
    | 2, hf => cases hf; exact ⟨_, _, _, _, rfl, d2⟩
    | 3, hf => cases hf; exact ⟨_, _, _, _, rfl, d3⟩
    | 4, hf => cases hf; exact ⟨_, _, _, _, rfl, d4⟩
    | 5, hf => cases hf; exact ⟨_, _, _, _, rfl, d5⟩
    | 6, hf => cases hf; exact ⟨_, _, _, _, rfl, d6⟩
    | 7, hf => cases hf; exact ⟨_, _, _, _, rfl, d7⟩
    | 8, hf => cases hf; exact ⟨_, _, _, _, rfl, d8⟩
    | 9, hf => cases hf; exact ⟨_, _, _, _, rfl, d9⟩
    | 10, hf => cases hf; exact ⟨_, _, _, _, rfl, d10⟩
    | n + 11, hf => exact absurd hf (by simp [G])
  · have hx : x ∈ (["abs", "bool", "int", "isinstance", "len", "range", "str"] : List Str) := by simpa [G] using hx
    simp only [List.mem_cons, List.not_mem_nil, or_false] at hx
    rcases hx with rfl | rfl | rfl | rfl | rfl | rfl | rfl
    · exact PySem.W.mg_none_of X Gn z0
    · exact PySem.W.mg_none_of X Gn z1
    · exact PySem.W.mg_none_of X Gn z2
    · exact PySem.W.mg_none_of X Gn z3
    · exact PySem.W.mg_none_of X Gn z4
    · exact PySem.W.mg_none_of X Gn z5
    · exact PySem.W.mg_none_of X Gn z6
  · exact absurd hp (by simp [G])
  · exact absurd hc (by simp [G])
  · exact absurd hp (by simp [G])
  · exact absurd hp (by simp [G])
  · match c, hc with
    | 0, hc => cases hc; exact ⟨X0, (xmOf_at rfl xA0).1, (xmOf_at rfl xA0).2, raisT_0 (PySem.W.mg_of X Gn xA0) (by decide) xq0 xk0 xe0 xy0⟩
    | 1, hc => cases hc; exact ⟨X1, (xmOf_at rfl xA1).1, (xmOf_at rfl xA1).2, raisT_0 (PySem.W.mg_of X Gn xA1) (by decide) xq1 xk1 xe1 xy1⟩
    | 2, hc => cases hc; exact ⟨X2, (xmOf_at rfl xA2).1, (xmOf_at rfl xA2).2, raisT_0 (PySem.W.mg_of X Gn xA2) (by decide) xq2 xk2 xe2 xy2⟩
    | 3, hc => cases hc; exact ⟨X3, (xmOf_at rfl xA3).1, (xmOf_at rfl xA3).2, raisT_0 (PySem.W.mg_of X Gn xA3) (by decide) xq3 xk3 xe3 xy3⟩
    | 4, hc => cases hc; exact ⟨X4, (xmOf_at rfl xA4).1, (xmOf_at rfl xA4).2, raisT_at { gC := PySem.W.mg_of X Gn xA4, hdb := by decide, cls := ⟨_, _, _, _, _, _, _, _, _, _, _, _, _, _, _, xl4, xr4⟩, sa := xs4, ga := xg4, gg := xh4, noN := xj4, iC := xi4, tC := xt4, kC := xk4, exC := xe4, tyC := xy4, hdC := xd4, te := exm_sub xe4 xd4 xy4 xw4, fn := ⟨_, _, _, _, _, _, _, _, _, _, _, _, _, _, xf4, xz4⟩ }⟩
    | 5, hc => cases hc; exact ⟨X5, (xmOf_at rfl xA5).1, (xmOf_at rfl xA5).2, raisT_name { gC := PySem.W.mg_of X Gn xA5, hdb := by decide, cls := ⟨_, _, _, _, _, _, _, _, _, _, _, _, _, _, _, xl5, xr5⟩, sa := xs5, ga := xg5, gg := xh5, noN := xj5, iC := xi5, tC := xt5, kC := xk5, exC := xe5, tyC := xy5, hdC := xd5, te := exm_sub xe5 xd5 xy5 xw5, fn := ⟨_, _, _, _, _, _, _, _, _, _, _, _, _, _, xf5, xz5⟩ }⟩
    | 6, hc => cases hc; exact ⟨X6, (xmOf_at rfl xA6).1, (xmOf_at rfl xA6).2, raisT_name { gC := PySem.W.mg_of X Gn xA6, hdb := by decide, cls := ⟨_, _, _, _, _, _, _, _, _, _, _, _, _, _, _, xl6, xr6⟩, sa := xs6, ga := xg6, gg := xh6, noN := xj6, iC := xi6, tC := xt6, kC := xk6, exC := xe6, tyC := xy6, hdC := xd6, te := exm_sub xe6 xd6 xy6 xw6, fn := ⟨_, _, _, _, _, _, _, _, _, _, _, _, _, _, xf6, xz6⟩ }⟩
    | 7, hc => cases hc; exact ⟨X7, (xmOf_at rfl xA7).1, (xmOf_at rfl xA7).2, raisT_name { gC := PySem.W.mg_of X Gn xA7, hdb := by decide, cls := ⟨_, _, _, _, _, _, _, _, _, _, _, _, _, _, _, xl7, xr7⟩, sa := xs7, ga := xg7, gg := xh7, noN := xj7, iC := xi7, tC := xt7, kC := xk7, exC := xe7, tyC := xy7, hdC := xd7, te := exm_sub xe7 xd7 xy7 xw7, fn := ⟨_, _, _, _, _, _, _, _, _, _, _, _, _, _, xf7, xz7⟩ }⟩
    | 8, hc => cases hc; exact ⟨X8, (xmOf_at rfl xA8).1, (xmOf_at rfl xA8).2, raisT_wanted { gC := PySem.W.mg_of X Gn xA8, hdb := by decide, cls := ⟨_, _, _, _, _, _, _, _, _, _, _, _, _, _, _, xl8, xr8⟩, sa := xs8, ga := xg8, gg := xh8, noN := xj8, iC := xi8, tC := xt8, kC := xk8, exC := xe8, tyC := xy8, hdC := xd8, te := exm_sub xe8 xd8 xy8 xw8, fn := ⟨_, _, _, _, _, _, _, _, _, _, _, _, _, _, xf8, xz8⟩ }⟩
    | 9, hc => cases hc; exact ⟨X9, (xmOf_at rfl xA9).1, (xmOf_at rfl xA9).2, raisT_0 (PySem.W.mg_of X Gn xA9) (by decide) xq9 xk9 xe9 xy9⟩
    | 10, hc => cases hc; exact ⟨X10, (xmOf_at rfl xA10).1, (xmOf_at rfl xA10).2, raisT_0 (PySem.W.mg_of X Gn xA10) (by decide) xq10 xk10 xe10 xy10⟩
    | 11, hc => cases hc; exact ⟨X11, (xmOf_at rfl xA11).1, (xmOf_at rfl xA11).2, raisT_at { gC := PySem.W.mg_of X Gn xA11, hdb := by decide, cls := ⟨_, _, _, _, _, _, _, _, _, _, _, _, _, _, _, xl11, xr11⟩, sa := xs11, ga := xg11, gg := xh11, noN := xj11, iC := xi11, tC := xt11, kC := xk11, exC := xe11, tyC := xy11, hdC := xd11, te := exm_sub xe11 xd11 xy11 xw11, fn := ⟨_, _, _, _, _, _, _, _, _, _, _, _, _, _, xf11, xz11⟩ }⟩
    | 12, hc => cases hc; exact ⟨X12, (xmOf_at rfl xA12).1, (xmOf_at rfl xA12).2, raisT_0 (PySem.W.mg_of X Gn xA12) (by decide) xq12 xk12 xe12 xy12⟩
    | 13, hc => cases hc; exact ⟨X13, (xmOf_at rfl xA13).1, (xmOf_at rfl xA13).2, raisT_0 (PySem.W.mg_of X Gn xA13) (by decide) xq13 xk13 xe13 xy13⟩
    | 14, hc => cases hc; exact ⟨X14, (xmOf_at rfl xA14).1, (xmOf_at rfl xA14).2, raisT_wanted { gC := PySem.W.mg_of X Gn xA14, hdb := by decide, cls := ⟨_, _, _, _, _, _, _, _, _, _, _, _, _, _, _, xl14, xr14⟩, sa := xs14, ga := xg14, gg := xh14, noN := xj14, iC := xi14, tC := xt14, kC := xk14, exC := xe14, tyC := xy14, hdC := xd14, te := exm_sub xe14 xd14 xy14 xw14, fn := ⟨_, _, _, _, _, _, _, _, _, _, _, _, _, _, xf14, xz14⟩ }⟩
    | n + 15, hc => exact absurd hc (by simp [G])
  · have xs_0_ : ∀ q ∈ xs_0, XsP K mg G q := xs_cons (⟨X0, .ref X0, .ref X0, rfl, rel_ref _, (xmOf_at rfl xA0).1, .inl (PySem.W.mg_of X Gn xA0), exm_sub xe0 xd0 xy0 xx0, kit_sub xd0 xy0 xw0 xx0, ⟨xg0, xh0, xe0, xd0, xo0, xhn, xht, xm0⟩⟩)
      (xs_cons (⟨X1, .ref X0, .ref X0, rfl, rel_ref _, (xmOf_at rfl xA1).1, .inl (PySem.W.mg_of X Gn xA0), exm_sub xe0 xd0 xy0 xx1, kit_sub xd0 xy0 xw0 xx1, ⟨xg1, xh1, xe1, xd1, xo1, xhn, xht, xm1⟩⟩)
      (xs_cons (⟨X2, .ref X0, .ref X0, rfl, rel_ref _, (xmOf_at rfl xA2).1, .inl (PySem.W.mg_of X Gn xA0), exm_sub xe0 xd0 xy0 xx2, kit_sub xd0 xy0 xw0 xx2, ⟨xg2, xh2, xe2, xd2, xo2, xhn, xht, xm2⟩⟩)
      (xs_cons (⟨X3, .ref X0, .ref X0, rfl, rel_ref _, (xmOf_at rfl xA3).1, .inl (PySem.W.mg_of X Gn xA0), exm_sub xe0 xd0 xy0 xx3, kit_sub xd0 xy0 xw0 xx3, ⟨xg3, xh3, xe3, xd3, xo3, xhn, xht, xm3⟩⟩)
      (xs_cons (⟨X4, .ref X0, .ref X0, rfl, rel_ref _, (xmOf_at rfl xA4).1, .inl (PySem.W.mg_of X Gn xA0), exm_sub xe0 xd0 xy0 xx4, kit_sub xd0 xy0 xw0 xx4, ⟨xg4, xh4, xe4, xd4, xo4, xhn, xht, xm4⟩⟩)
      (xs_cons (⟨X5, .ref X0, .ref X0, rfl, rel_ref _, (xmOf_at rfl xA5).1, .inl (PySem.W.mg_of X Gn xA0), exm_sub xe0 xd0 xy0 xx5, kit_sub xd0 xy0 xw0 xx5, ⟨xg5, xh5, xe5, xd5, xo5, xhn, xht, xm5⟩⟩)
      (xs_cons (⟨X6, .ref X0, .ref X0, rfl, rel_ref _, (xmOf_at rfl xA6).1, .inl (PySem.W.mg_of X Gn xA0), exm_sub xe0 xd0 xy0 xx6, kit_sub xd0 xy0 xw0 xx6, ⟨xg6, xh6, xe6, xd6, xo6, xhn, xht, xm6⟩⟩)
      (xs_cons (⟨X7, .ref X0, .ref X0, rfl, rel_ref _, (xmOf_at rfl xA7).1, .inl (PySem.W.mg_of X Gn xA0), exm_sub xe0 xd0 xy0 xx7, kit_sub xd0 xy0 xw0 xx7, ⟨xg7, xh7, xe7, xd7, xo7, xhn, xht, xm7⟩⟩)
      (xs_cons (⟨X8, .ref X0, .ref X0, rfl, rel_ref _, (xmOf_at rfl xA8).1, .inl (PySem.W.mg_of X Gn xA0), exm_sub xe0 xd0 xy0 xx8, kit_sub xd0 xy0 xw0 xx8, ⟨xg8, xh8, xe8, xd8, xo8, xhn, xht, xm8⟩⟩)
      (xs_cons (⟨X9, .ref X0, .ref X0, rfl, rel_ref _, (xmOf_at rfl xA9).1, .inl (PySem.W.mg_of X Gn xA0), exm_sub xe0 xd0 xy0 xx9, kit_sub xd0 xy0 xw0 xx9, ⟨xg9, xh9, xe9, xd9, xo9, xhn, xht, xm9⟩⟩)
      (xs_cons (⟨X10, .ref X0, .ref X0, rfl, rel_ref _, (xmOf_at rfl xA10).1, .inl (PySem.W.mg_of X Gn xA0), exm_sub xe0 xd0 xy0 xx10, kit_sub xd0 xy0 xw0 xx10, ⟨xg10, xh10, xe10, xd10, xo10, xhn, xht, xm10⟩⟩)
      (xs_cons (⟨X11, .ref X0, .ref X0, rfl, rel_ref _, (xmOf_at rfl xA11).1, .inl (PySem.W.mg_of X Gn xA0), exm_sub xe0 xd0 xy0 xx11, kit_sub xd0 xy0 xw0 xx11, ⟨xg11, xh11, xe11, xd11, xo11, xhn, xht, xm11⟩⟩)
      (xs_cons (⟨X12, .ref X0, .ref X0, rfl, rel_ref _, (xmOf_at rfl xA12).1, .inl (PySem.W.mg_of X Gn xA0), exm_sub xe0 xd0 xy0 xx12, kit_sub xd0 xy0 xw0 xx12, ⟨xg12, xh12, xe12, xd12, xo12, xhn, xht, xm12⟩⟩)
      (xs_cons (⟨X13, .ref X0, .ref X0, rfl, rel_ref _, (xmOf_at rfl xA13).1, .inl (PySem.W.mg_of X Gn xA0), exm_sub xe0 xd0 xy0 xx13, kit_sub xd0 xy0 xw0 xx13, ⟨xg13, xh13, xe13, xd13, xo13, xhn, xht, xm13⟩⟩)
      (xs_cons (⟨X14, .ref X0, .ref X0, rfl, rel_ref _, (xmOf_at rfl xA14).1, .inl (PySem.W.mg_of X Gn xA0), exm_sub xe0 xd0 xy0 xx14, kit_sub xd0 xy0 xw0 xx14, ⟨xg14, xh14, xe14, xd14, xo14, xhn, xht, xm14⟩⟩)
      (xs_nil)))))))))))))))
    have xs_1_ : ∀ q ∈ xs_1, XsP K mg G q := xs_cons (⟨X0, .ref X1, .ref X1, rfl, rel_ref _, (xmOf_at rfl xA0).1, .inl (PySem.W.mg_of X Gn xA1), exm_sub xe1 xd1 xy1 xx15, kit_sub xd1 xy1 xw1 xx15, ⟨xg0, xh0, xe0, xd0, xo0, xhn, xht, xm0⟩⟩)
      (xs_cons (⟨X1, .ref X1, .ref X1, rfl, rel_ref _, (xmOf_at rfl xA1).1, .inl (PySem.W.mg_of X Gn xA1), exm_sub xe1 xd1 xy1 xx16, kit_sub xd1 xy1 xw1 xx16, ⟨xg1, xh1, xe1, xd1, xo1, xhn, xht, xm1⟩⟩)
      (xs_cons (⟨X2, .ref X1, .ref X1, rfl, rel_ref _, (xmOf_at rfl xA2).1, .inl (PySem.W.mg_of X Gn xA1), exm_sub xe1 xd1 xy1 xx17, kit_sub xd1 xy1 xw1 xx17, ⟨xg2, xh2, xe2, xd2, xo2, xhn, xht, xm2⟩⟩)
      (xs_cons (⟨X3, .ref X1, .ref X1, rfl, rel_ref _, (xmOf_at rfl xA3).1, .inl (PySem.W.mg_of X Gn xA1), exm_sub xe1 xd1 xy1 xx18, kit_sub xd1 xy1 xw1 xx18, ⟨xg3, xh3, xe3, xd3, xo3, xhn, xht, xm3⟩⟩)
      (xs_cons (⟨X4, .ref X1, .ref X1, rfl, rel_ref _, (xmOf_at rfl xA4).1, .inl (PySem.W.mg_of X Gn xA1), exm_sub xe1 xd1 xy1 xx19, kit_sub xd1 xy1 xw1 xx19, ⟨xg4, xh4, xe4, xd4, xo4, xhn, xht, xm4⟩⟩)
      (xs_cons (⟨X5, .ref X1, .ref X1, rfl, rel_ref _, (xmOf_at rfl xA5).1, .inl (PySem.W.mg_of X Gn xA1), exm_sub xe1 xd1 xy1 xx20, kit_sub xd1 xy1 xw1 xx20, ⟨xg5, xh5, xe5, xd5, xo5, xhn, xht, xm5⟩⟩)
      (xs_cons (⟨X6, .ref X1, .ref X1, rfl, rel_ref _, (xmOf_at rfl xA6).1, .inl (PySem.W.mg_of X Gn xA1), exm_sub xe1 xd1 xy1 xx21, kit_sub xd1 xy1 xw1 xx21, ⟨xg6, xh6, xe6, xd6, xo6, xhn, xht, xm6⟩⟩)
      (xs_cons (⟨X7, .ref X1, .ref X1, rfl, rel_ref _, (xmOf_at rfl xA7).1, .inl (PySem.W.mg_of X Gn xA1), exm_sub xe1 xd1 xy1 xx22, kit_sub xd1 xy1 xw1 xx22, ⟨xg7, xh7, xe7, xd7, xo7, xhn, xht, xm7⟩⟩)
      (xs_cons (⟨X8, .ref X1, .ref X1, rfl, rel_ref _, (xmOf_at rfl xA8).1, .inl (PySem.W.mg_of X Gn xA1), exm_sub xe1 xd1 xy1 xx23, kit_sub xd1 xy1 xw1 xx23, ⟨xg8, xh8, xe8, xd8, xo8, xhn, xht, xm8⟩⟩)
      (xs_cons (⟨X9, .ref X1, .ref X1, rfl, rel_ref _, (xmOf_at rfl xA9).1, .inl (PySem.W.mg_of X Gn xA1), exm_sub xe1 xd1 xy1 xx24, kit_sub xd1 xy1 xw1 xx24, ⟨xg9, xh9, xe9, xd9, xo9, xhn, xht, xm9⟩⟩)
      (xs_cons (⟨X10, .ref X1, .ref X1, rfl, rel_ref _, (xmOf_at rfl xA10).1, .inl (PySem.W.mg_of X Gn xA1), exm_sub xe1 xd1 xy1 xx25, kit_sub xd1 xy1 xw1 xx25, ⟨xg10, xh10, xe10, xd10, xo10, xhn, xht, xm10⟩⟩)
      (xs_cons (⟨X11, .ref X1, .ref X1, rfl, rel_ref _, (xmOf_at rfl xA11).1, .inl (PySem.W.mg_of X Gn xA1), exm_sub xe1 xd1 xy1 xx26, kit_sub xd1 xy1 xw1 xx26, ⟨xg11, xh11, xe11, xd11, xo11, xhn, xht, xm11⟩⟩)
      (xs_cons (⟨X12, .ref X1, .ref X1, rfl, rel_ref _, (xmOf_at rfl xA12).1, .inl (PySem.W.mg_of X Gn xA1), exm_sub xe1 xd1 xy1 xx27, kit_sub xd1 xy1 xw1 xx27, ⟨xg12, xh12, xe12, xd12, xo12, xhn, xht, xm12⟩⟩)
      (xs_cons (⟨X13, .ref X1, .ref X1, rfl, rel_ref _, (xmOf_at rfl xA13).1, .inl (PySem.W.mg_of X Gn xA1), exm_sub xe1 xd1 xy1 xx28, kit_sub xd1 xy1 xw1 xx28, ⟨xg13, xh13, xe13, xd13, xo13, xhn, xht, xm13⟩⟩)
      (xs_cons (⟨X14, .ref X1, .ref X1, rfl, rel_ref _, (xmOf_at rfl xA14).1, .inl (PySem.W.mg_of X Gn xA1), exm_sub xe1 xd1 xy1 xx29, kit_sub xd1 xy1 xw1 xx29, ⟨xg14, xh14, xe14, xd14, xo14, xhn, xht, xm14⟩⟩)
      (xs_nil)))))))))))))))
    have xs_2_ : ∀ q ∈ xs_2, XsP K mg G q := xs_cons (⟨X0, .ref X2, .ref X2, rfl, rel_ref _, (xmOf_at rfl xA0).1, .inl (PySem.W.mg_of X Gn xA2), exm_sub xe2 xd2 xy2 xx30, kit_sub xd2 xy2 xw2 xx30, ⟨xg0, xh0, xe0, xd0, xo0, xhn, xht, xm0⟩⟩)
      (xs_cons (⟨X1, .ref X2, .ref X2, rfl, rel_ref _, (xmOf_at rfl xA1).1, .inl (PySem.W.mg_of X Gn xA2), exm_sub xe2 xd2 xy2 xx31, kit_sub xd2 xy2 xw2 xx31, ⟨xg1, xh1, xe1, xd1, xo1, xhn, xht, xm1⟩⟩)
      (xs_cons (⟨X2, .ref X2, .ref X2, rfl, rel_ref _, (xmOf_at rfl xA2).1, .inl (PySem.W.mg_of X Gn xA2), exm_sub xe2 xd2 xy2 xx32, kit_sub xd2 xy2 xw2 xx32, ⟨xg2, xh2, xe2, xd2, xo2, xhn, xht, xm2⟩⟩)
      (xs_cons (⟨X3, .ref X2, .ref X2, rfl, rel_ref _, (xmOf_at rfl xA3).1, .inl (PySem.W.mg_of X Gn xA2), exm_sub xe2 xd2 xy2 xx33, kit_sub xd2 xy2 xw2 xx33, ⟨xg3, xh3, xe3, xd3, xo3, xhn, xht, xm3⟩⟩)
      (xs_cons (⟨X4, .ref X2, .ref X2, rfl, rel_ref _, (xmOf_at rfl xA4).1, .inl (PySem.W.mg_of X Gn xA2), exm_sub xe2 xd2 xy2 xx34, kit_sub xd2 xy2 xw2 xx34, ⟨xg4, xh4, xe4, xd4, xo4, xhn, xht, xm4⟩⟩)
      (xs_cons (⟨X5, .ref X2, .ref X2, rfl, rel_ref _, (xmOf_at rfl xA5).1, .inl (PySem.W.mg_of X Gn xA2), exm_sub xe2 xd2 xy2 xx35, kit_sub xd2 xy2 xw2 xx35, ⟨xg5, xh5, xe5, xd5, xo5, xhn, xht, xm5⟩⟩)
      (xs_cons (⟨X6, .ref X2, .ref X2, rfl, rel_ref _, (xmOf_at rfl xA6).1, .inl (PySem.W.mg_of X Gn xA2), exm_sub xe2 xd2 xy2 xx36, kit_sub xd2 xy2 xw2 xx36, ⟨xg6, xh6, xe6, xd6, xo6, xhn, xht, xm6⟩⟩)
      (xs_cons (⟨X7, .ref X2, .ref X2, rfl, rel_ref _, (xmOf_at rfl xA7).1, .inl (PySem.W.mg_of X Gn xA2), exm_sub xe2 xd2 xy2 xx37, kit_sub xd2 xy2 xw2 xx37, ⟨xg7, xh7, xe7, xd7, xo7, xhn, xht, xm7⟩⟩)
      (xs_cons (⟨X8, .ref X2, .ref X2, rfl, rel_ref _, (xmOf_at rfl xA8).1, .inl (PySem.W.mg_of X Gn xA2), exm_sub xe2 xd2 xy2 xx38, kit_sub xd2 xy2 xw2 xx38, ⟨xg8, xh8, xe8, xd8, xo8, xhn, xht, xm8⟩⟩)
      (xs_cons (⟨X9, .ref X2, .ref X2, rfl, rel_ref _, (xmOf_at rfl xA9).1, .inl (PySem.W.mg_of X Gn xA2), exm_sub xe2 xd2 xy2 xx39, kit_sub xd2 xy2 xw2 xx39, ⟨xg9, xh9, xe9, xd9, xo9, xhn, xht, xm9⟩⟩)
      (xs_cons (⟨X10, .ref X2, .ref X2, rfl, rel_ref _, (xmOf_at rfl xA10).1, .inl (PySem.W.mg_of X Gn xA2), exm_sub xe2 xd2 xy2 xx40, kit_sub xd2 xy2 xw2 xx40, ⟨xg10, xh10, xe10, xd10, xo10, xhn, xht, xm10⟩⟩)
      (xs_cons (⟨X11, .ref X2, .ref X2, rfl, rel_ref _, (xmOf_at rfl xA11).1, .inl (PySem.W.mg_of X Gn xA2), exm_sub xe2 xd2 xy2 xx41, kit_sub xd2 xy2 xw2 xx41, ⟨xg11, xh11, xe11, xd11, xo11, xhn, xht, xm11⟩⟩)
      (xs_cons (⟨X12, .ref X2, .ref X2, rfl, rel_ref _, (xmOf_at rfl xA12).1, .inl (PySem.W.mg_of X Gn xA2), exm_sub xe2 xd2 xy2 xx42, kit_sub xd2 xy2 xw2 xx42, ⟨xg12, xh12, xe12, xd12, xo12, xhn, xht, xm12⟩⟩)
      (xs_cons (⟨X13, .ref X2, .ref X2, rfl, rel_ref _, (xmOf_at rfl xA13).1, .inl (PySem.W.mg_of X Gn xA2), exm_sub xe2 xd2 xy2 xx43, kit_sub xd2 xy2 xw2 xx43, ⟨xg13, xh13, xe13, xd13, xo13, xhn, xht, xm13⟩⟩)
      (xs_cons (⟨X14, .ref X2, .ref X2, rfl, rel_ref _, (xmOf_at rfl xA14).1, .inl (PySem.W.mg_of X Gn xA2), exm_sub xe2 xd2 xy2 xx44, kit_sub xd2 xy2 xw2 xx44, ⟨xg14, xh14, xe14, xd14, xo14, xhn, xht, xm14⟩⟩)
      (xs_nil)))))))))))))))
    have xs_3_ : ∀ q ∈ xs_3, XsP K mg G q := xs_cons (⟨X0, .ref X3, .ref X3, rfl, rel_ref _, (xmOf_at rfl xA0).1, .inl (PySem.W.mg_of X Gn xA3), exm_sub xe3 xd3 xy3 xx45, kit_sub xd3 xy3 xw3 xx45, ⟨xg0, xh0, xe0, xd0, xo0, xhn, xht, xm0⟩⟩)
      (xs_cons (⟨X1, .ref X3, .ref X3, rfl, rel_ref _, (xmOf_at rfl xA1).1, .inl (PySem.W.mg_of X Gn xA3), exm_sub xe3 xd3 xy3 xx46, kit_sub xd3 xy3 xw3 xx46, ⟨xg1, xh1, xe1, xd1, xo1, xhn, xht, xm1⟩⟩)
      (xs_cons (⟨X2, .ref X3, .ref X3, rfl, rel_ref _, (xmOf_at rfl xA2).1, .inl (PySem.W.mg_of X Gn xA3), exm_sub xe3 xd3 xy3 xx47, kit_sub xd3 xy3 xw3 xx47, ⟨xg2, xh2, xe2, xd2, xo2, xhn, xht, xm2⟩⟩)
      (xs_cons (⟨X3, .ref X3, .ref X3, rfl, rel_ref _, (xmOf_at rfl xA3).1, .inl (PySem.W.mg_of X Gn xA3), exm_sub xe3 xd3 xy3 xx48, kit_sub xd3 xy3 xw3 xx48, ⟨xg3, xh3, xe3, xd3, xo3, xhn, xht, xm3⟩⟩)
      (xs_cons (⟨X4, .ref X3, .ref X3, rfl, rel_ref _, (xmOf_at rfl xA4).1, .inl (PySem.W.mg_of X Gn xA3), exm_sub xe3 xd3 xy3 xx49, kit_sub xd3 xy3 xw3 xx49, ⟨xg4, xh4, xe4, xd4, xo4, xhn, xht, xm4⟩⟩)
      (xs_cons (⟨X5, .ref X3, .ref X3, rfl, rel_ref _, (xmOf_at rfl xA5).1, .inl (PySem.W.mg_of X Gn xA3), exm_sub xe3 xd3 xy3 xx50, kit_sub xd3 xy3 xw3 xx50, ⟨xg5, xh5, xe5, xd5, xo5, xhn, xht, xm5⟩⟩)
      (xs_cons (⟨X6, .ref X3, .ref X3, rfl, rel_ref _, (xmOf_at rfl xA6).1, .inl (PySem.W.mg_of X Gn xA3), exm_sub xe3 xd3 xy3 xx51, kit_sub xd3 xy3 xw3 xx51, ⟨xg6, xh6, xe6, xd6, xo6, xhn, xht, xm6⟩⟩)
      (xs_cons (⟨X7, .ref X3, .ref X3, rfl, rel_ref _, (xmOf_at rfl xA7).1, .inl (PySem.W.mg_of X Gn xA3), exm_sub xe3 xd3 xy3 xx52, kit_sub xd3 xy3 xw3 xx52, ⟨xg7, xh7, xe7, xd7, xo7, xhn, xht, xm7⟩⟩)
      (xs_cons (⟨X8, .ref X3, .ref X3, rfl, rel_ref _, (xmOf_at rfl xA8).1, .inl (PySem.W.mg_of X Gn xA3), exm_sub xe3 xd3 xy3 xx53, kit_sub xd3 xy3 xw3 xx53, ⟨xg8, xh8, xe8, xd8, xo8, xhn, xht, xm8⟩⟩)
      (xs_cons (⟨X9, .ref X3, .ref X3, rfl, rel_ref _, (xmOf_at rfl xA9).1, .inl (PySem.W.mg_of X Gn xA3), exm_sub xe3 xd3 xy3 xx54, kit_sub xd3 xy3 xw3 xx54, ⟨xg9, xh9, xe9, xd9, xo9, xhn, xht, xm9⟩⟩)
      (xs_cons (⟨X10, .ref X3, .ref X3, rfl, rel_ref _, (xmOf_at rfl xA10).1, .inl (PySem.W.mg_of X Gn xA3), exm_sub xe3 xd3 xy3 xx55, kit_sub xd3 xy3 xw3 xx55, ⟨xg10, xh10, xe10, xd10, xo10, xhn, xht, xm10⟩⟩)
      (xs_cons (⟨X11, .ref X3, .ref X3, rfl, rel_ref _, (xmOf_at rfl xA11).1, .inl (PySem.W.mg_of X Gn xA3), exm_sub xe3 xd3 xy3 xx56, kit_sub xd3 xy3 xw3 xx56, ⟨xg11, xh11, xe11, xd11, xo11, xhn, xht, xm11⟩⟩)
      (xs_cons (⟨X12, .ref X3, .ref X3, rfl, rel_ref _, (xmOf_at rfl xA12).1, .inl (PySem.W.mg_of X Gn xA3), exm_sub xe3 xd3 xy3 xx57, kit_sub xd3 xy3 xw3 xx57, ⟨xg12, xh12, xe12, xd12, xo12, xhn, xht, xm12⟩⟩)
      (xs_cons (⟨X13, .ref X3, .ref X3, rfl, rel_ref _, (xmOf_at rfl xA13).1, .inl (PySem.W.mg_of X Gn xA3), exm_sub xe3 xd3 xy3 xx58, kit_sub xd3 xy3 xw3 xx58, ⟨xg13, xh13, xe13, xd13, xo13, xhn, xht, xm13⟩⟩)
      (xs_cons (⟨X14, .ref X3, .ref X3, rfl, rel_ref _, (xmOf_at rfl xA14).1, .inl (PySem.W.mg_of X Gn xA3), exm_sub xe3 xd3 xy3 xx59, kit_sub xd3 xy3 xw3 xx59, ⟨xg14, xh14, xe14, xd14, xo14, xhn, xht, xm14⟩⟩)
      (xs_nil)))))))))))))))
    have xs_4_ : ∀ q ∈ xs_4, XsP K mg G q := xs_cons (⟨X0, .ref X4, .ref X4, rfl, rel_ref _, (xmOf_at rfl xA0).1, .inl (PySem.W.mg_of X Gn xA4), exm_sub xe4 xd4 xy4 xx60, kit_sub xd4 xy4 xw4 xx60, ⟨xg0, xh0, xe0, xd0, xo0, xhn, xht, xm0⟩⟩)
      (xs_cons (⟨X1, .ref X4, .ref X4, rfl, rel_ref _, (xmOf_at rfl xA1).1, .inl (PySem.W.mg_of X Gn xA4), exm_sub xe4 xd4 xy4 xx61, kit_sub xd4 xy4 xw4 xx61, ⟨xg1, xh1, xe1, xd1, xo1, xhn, xht, xm1⟩⟩)
      (xs_cons (⟨X2, .ref X4, .ref X4, rfl, rel_ref _, (xmOf_at rfl xA2).1, .inl (PySem.W.mg_of X Gn xA4), exm_sub xe4 xd4 xy4 xx62, kit_sub xd4 xy4 xw4 xx62, ⟨xg2, xh2, xe2, xd2, xo2, xhn, xht, xm2⟩⟩)
      (xs_cons (⟨X3, .ref X4, .ref X4, rfl, rel_ref _, (xmOf_at rfl xA3).1, .inl (PySem.W.mg_of X Gn xA4), exm_sub xe4 xd4 xy4 xx63, kit_sub xd4 xy4 xw4 xx63, ⟨xg3, xh3, xe3, xd3, xo3, xhn, xht, xm3⟩⟩)
      (xs_cons (⟨X4, .ref X4, .ref X4, rfl, rel_ref _, (xmOf_at rfl xA4).1, .inl (PySem.W.mg_of X Gn xA4), exm_sub xe4 xd4 xy4 xx64, kit_sub xd4 xy4 xw4 xx64, ⟨xg4, xh4, xe4, xd4, xo4, xhn, xht, xm4⟩⟩)
      (xs_cons (⟨X5, .ref X4, .ref X4, rfl, rel_ref _, (xmOf_at rfl xA5).1, .inl (PySem.W.mg_of X Gn xA4), exm_sub xe4 xd4 xy4 xx65, kit_sub xd4 xy4 xw4 xx65, ⟨xg5, xh5, xe5, xd5, xo5, xhn, xht, xm5⟩⟩)
      (xs_cons (⟨X6, .ref X4, .ref X4, rfl, rel_ref _, (xmOf_at rfl xA6).1, .inl (PySem.W.mg_of X Gn xA4), exm_sub xe4 xd4 xy4 xx66, kit_sub xd4 xy4 xw4 xx66, ⟨xg6, xh6, xe6, xd6, xo6, xhn, xht, xm6⟩⟩)
      (xs_cons (⟨X7, .ref X4, .ref X4, rfl, rel_ref _, (xmOf_at rfl xA7).1, .inl (PySem.W.mg_of X Gn xA4), exm_sub xe4 xd4 xy4 xx67, kit_sub xd4 xy4 xw4 xx67, ⟨xg7, xh7, xe7, xd7, xo7, xhn, xht, xm7⟩⟩)
      (xs_cons (⟨X8, .ref X4, .ref X4, rfl, rel_ref _, (xmOf_at rfl xA8).1, .inl (PySem.W.mg_of X Gn xA4), exm_sub xe4 xd4 xy4 xx68, kit_sub xd4 xy4 xw4 xx68, ⟨xg8, xh8, xe8, xd8, xo8, xhn, xht, xm8⟩⟩)
      (xs_cons (⟨X9, .ref X4, .ref X4, rfl, rel_ref _, (xmOf_at rfl xA9).1, .inl (PySem.W.mg_of X Gn xA4), exm_sub xe4 xd4 xy4 xx69, kit_sub xd4 xy4 xw4 xx69, ⟨xg9, xh9, xe9, xd9, xo9, xhn, xht, xm9⟩⟩)
      (xs_cons (⟨X10, .ref X4, .ref X4, rfl, rel_ref _, (xmOf_at rfl xA10).1, .inl (PySem.W.mg_of X Gn xA4), exm_sub xe4 xd4 xy4 xx70, kit_sub xd4 xy4 xw4 xx70, ⟨xg10, xh10, xe10, xd10, xo10, xhn, xht, xm10⟩⟩)
      (xs_cons (⟨X11, .ref X4, .ref X4, rfl, rel_ref _, (xmOf_at rfl xA11).1, .inl (PySem.W.mg_of X Gn xA4), exm_sub xe4 xd4 xy4 xx71, kit_sub xd4 xy4 xw4 xx71, ⟨xg11, xh11, xe11, xd11, xo11, xhn, xht, xm11⟩⟩)
      (xs_cons (⟨X12, .ref X4, .ref X4, rfl, rel_ref _, (xmOf_at rfl xA12).1, .inl (PySem.W.mg_of X Gn xA4), exm_sub xe4 xd4 xy4 xx72, kit_sub xd4 xy4 xw4 xx72, ⟨xg12, xh12, xe12, xd12, xo12, xhn, xht, xm12⟩⟩)
      (xs_cons (⟨X13, .ref X4, .ref X4, rfl, rel_ref _, (xmOf_at rfl xA13).1, .inl (PySem.W.mg_of X Gn xA4), exm_sub xe4 xd4 xy4 xx73, kit_sub xd4 xy4 xw4 xx73, ⟨xg13, xh13, xe13, xd13, xo13, xhn, xht, xm13⟩⟩)
      (xs_cons (⟨X14, .ref X4, .ref X4, rfl, rel_ref _, (xmOf_at rfl xA14).1, .inl (PySem.W.mg_of X Gn xA4), exm_sub xe4 xd4 xy4 xx74, kit_sub xd4 xy4 xw4 xx74, ⟨xg14, xh14, xe14, xd14, xo14, xhn, xht, xm14⟩⟩)
      (xs_nil)))))))))))))))
    have xs_5_ : ∀ q ∈ xs_5, XsP K mg G q := xs_cons (⟨X0, .ref X5, .ref X5, rfl, rel_ref _, (xmOf_at rfl xA0).1, .inl (PySem.W.mg_of X Gn xA5), exm_sub xe5 xd5 xy5 xx75, kit_sub xd5 xy5 xw5 xx75, ⟨xg0, xh0, xe0, xd0, xo0, xhn, xht, xm0⟩⟩)
      (xs_cons (⟨X1, .ref X5, .ref X5, rfl, rel_ref _, (xmOf_at rfl xA1).1, .inl (PySem.W.mg_of X Gn xA5), exm_sub xe5 xd5 xy5 xx76, kit_sub xd5 xy5 xw5 xx76, ⟨xg1, xh1, xe1, xd1, xo1, xhn, xht, xm1⟩⟩)
      (xs_cons (⟨X2, .ref X5, .ref X5, rfl, rel_ref _, (xmOf_at rfl xA2).1, .inl (PySem.W.mg_of X Gn xA5), exm_sub xe5 xd5 xy5 xx77, kit_sub xd5 xy5 xw5 xx77, ⟨xg2, xh2, xe2, xd2, xo2, xhn, xht, xm2⟩⟩)
      (xs_cons (⟨X3, .ref X5, .ref X5, rfl, rel_ref _, (xmOf_at rfl xA3).1, .inl (PySem.W.mg_of X Gn xA5), exm_sub xe5 xd5 xy5 xx78, kit_sub xd5 xy5 xw5 xx78, ⟨xg3, xh3, xe3, xd3, xo3, xhn, xht, xm3⟩⟩)
      (xs_cons (⟨X4, .ref X5, .ref X5, rfl, rel_ref _, (xmOf_at rfl xA4).1, .inl (PySem.W.mg_of X Gn xA5), exm_sub xe5 xd5 xy5 xx79, kit_sub xd5 xy5 xw5 xx79, ⟨xg4, xh4, xe4, xd4, xo4, xhn, xht, xm4⟩⟩)
      (xs_cons (⟨X5, .ref X5, .ref X5, rfl, rel_ref _, (xmOf_at rfl xA5).1, .inl (PySem.W.mg_of X Gn xA5), exm_sub xe5 xd5 xy5 xx80, kit_sub xd5 xy5 xw5 xx80, ⟨xg5, xh5, xe5, xd5, xo5, xhn, xht, xm5⟩⟩)
      (xs_cons (⟨X6, .ref X5, .ref X5, rfl, rel_ref _, (xmOf_at rfl xA6).1, .inl (PySem.W.mg_of X Gn xA5), exm_sub xe5 xd5 xy5 xx81, kit_sub xd5 xy5 xw5 xx81, ⟨xg6, xh6, xe6, xd6, xo6, xhn, xht, xm6⟩⟩)
      (xs_cons (⟨X7, .ref X5, .ref X5, rfl, rel_ref _, (xmOf_at rfl xA7).1, .inl (PySem.W.mg_of X Gn xA5), exm_sub xe5 xd5 xy5 xx82, kit_sub xd5 xy5 xw5 xx82, ⟨xg7, xh7, xe7, xd7, xo7, xhn, xht, xm7⟩⟩)
      (xs_cons (⟨X8, .ref X5, .ref X5, rfl, rel_ref _, (xmOf_at rfl xA8).1, .inl (PySem.W.mg_of X Gn xA5), exm_sub xe5 xd5 xy5 xx83, kit_sub xd5 xy5 xw5 xx83, ⟨xg8, xh8, xe8, xd8, xo8, xhn, xht, xm8⟩⟩)
      (xs_cons (⟨X9, .ref X5, .ref X5, rfl, rel_ref _, (xmOf_at rfl xA9).1, .inl (PySem.W.mg_of X Gn xA5), exm_sub xe5 xd5 xy5 xx84, kit_sub xd5 xy5 xw5 xx84, ⟨xg9, xh9, xe9, xd9, xo9, xhn, xht, xm9⟩⟩)
      (xs_cons (⟨X10, .ref X5, .ref X5, rfl, rel_ref _, (xmOf_at rfl xA10).1, .inl (PySem.W.mg_of X Gn xA5), exm_sub xe5 xd5 xy5 xx85, kit_sub xd5 xy5 xw5 xx85, ⟨xg10, xh10, xe10, xd10, xo10, xhn, xht, xm10⟩⟩)
      (xs_cons (⟨X11, .ref X5, .ref X5, rfl, rel_ref _, (xmOf_at rfl xA11).1, .inl (PySem.W.mg_of X Gn xA5), exm_sub xe5 xd5 xy5 xx86, kit_sub xd5 xy5 xw5 xx86, ⟨xg11, xh11, xe11, xd11, xo11, xhn, xht, xm11⟩⟩)
      (xs_cons (⟨X12, .ref X5, .ref X5, rfl, rel_ref _, (xmOf_at rfl xA12).1, .inl (PySem.W.mg_of X Gn xA5), exm_sub xe5 xd5 xy5 xx87, kit_sub xd5 xy5 xw5 xx87, ⟨xg12, xh12, xe12, xd12, xo12, xhn, xht, xm12⟩⟩)
      (xs_cons (⟨X13, .ref X5, .ref X5, rfl, rel_ref _, (xmOf_at rfl xA13).1, .inl (PySem.W.mg_of X Gn xA5), exm_sub xe5 xd5 xy5 xx88, kit_sub xd5 xy5 xw5 xx88, ⟨xg13, xh13, xe13, xd13, xo13, xhn, xht, xm13⟩⟩)
      (xs_cons (⟨X14, .ref X5, .ref X5, rfl, rel_ref _, (xmOf_at rfl xA14).1, .inl (PySem.W.mg_of X Gn xA5), exm_sub xe5 xd5 xy5 xx89, kit_sub xd5 xy5 xw5 xx89, ⟨xg14, xh14, xe14, xd14, xo14, xhn, xht, xm14⟩⟩)
      (xs_nil)))))))))))))))
    have xs_6_ : ∀ q ∈ xs_6, XsP K mg G q := xs_cons (⟨X0, .ref X6, .ref X6, rfl, rel_ref _, (xmOf_at rfl xA0).1, .inl (PySem.W.mg_of X Gn xA6), exm_sub xe6 xd6 xy6 xx90, kit_sub xd6 xy6 xw6 xx90, ⟨xg0, xh0, xe0, xd0, xo0, xhn, xht, xm0⟩⟩)
      (xs_cons (⟨X1, .ref X6, .ref X6, rfl, rel_ref _, (xmOf_at rfl xA1).1, .inl (PySem.W.mg_of X Gn xA6), exm_sub xe6 xd6 xy6 xx91, kit_sub xd6 xy6 xw6 xx91, ⟨xg1, xh1, xe1, xd1, xo1, xhn, xht, xm1⟩⟩)
      (xs_cons (⟨X2, .ref X6, .ref X6, rfl, rel_ref _, (xmOf_at rfl xA2).1, .inl (PySem.W.mg_of X Gn xA6), exm_sub xe6 xd6 xy6 xx92, kit_sub xd6 xy6 xw6 xx92, ⟨xg2, xh2, xe2, xd2, xo2, xhn, xht, xm2⟩⟩)
      (xs_cons (⟨X3, .ref X6, .ref X6, rfl, rel_ref _, (xmOf_at rfl xA3).1, .inl (PySem.W.mg_of X Gn xA6), exm_sub xe6 xd6 xy6 xx93, kit_sub xd6 xy6 xw6 xx93, ⟨xg3, xh3, xe3, xd3, xo3, xhn, xht, xm3⟩⟩)
      (xs_cons (⟨X4, .ref X6, .ref X6, rfl, rel_ref _, (xmOf_at rfl xA4).1, .inl (PySem.W.mg_of X Gn xA6), exm_sub xe6 xd6 xy6 xx94, kit_sub xd6 xy6 xw6 xx94, ⟨xg4, xh4, xe4, xd4, xo4, xhn, xht, xm4⟩⟩)
      (xs_cons (⟨X5, .ref X6, .ref X6, rfl, rel_ref _, (xmOf_at rfl xA5).1, .inl (PySem.W.mg_of X Gn xA6), exm_sub xe6 xd6 xy6 xx95, kit_sub xd6 xy6 xw6 xx95, ⟨xg5, xh5, xe5, xd5, xo5, xhn, xht, xm5⟩⟩)
      (xs_cons (⟨X6, .ref X6, .ref X6, rfl, rel_ref _, (xmOf_at rfl xA6).1, .inl (PySem.W.mg_of X Gn xA6), exm_sub xe6 xd6 xy6 xx96, kit_sub xd6 xy6 xw6 xx96, ⟨xg6, xh6, xe6, xd6, xo6, xhn, xht, xm6⟩⟩)
      (xs_cons (⟨X7, .ref X6, .ref X6, rfl, rel_ref _, (xmOf_at rfl xA7).1, .inl (PySem.W.mg_of X Gn xA6), exm_sub xe6 xd6 xy6 xx97, kit_sub xd6 xy6 xw6 xx97, ⟨xg7, xh7, xe7, xd7, xo7, xhn, xht, xm7⟩⟩)
      (xs_cons (⟨X8, .ref X6, .ref X6, rfl, rel_ref _, (xmOf_at rfl xA8).1, .inl (PySem.W.mg_of X Gn xA6), exm_sub xe6 xd6 xy6 xx98, kit_sub xd6 xy6 xw6 xx98, ⟨xg8, xh8, xe8, xd8, xo8, xhn, xht, xm8⟩⟩)
      (xs_cons (⟨X9, .ref X6, .ref X6, rfl, rel_ref _, (xmOf_at rfl xA9).1, .inl (PySem.W.mg_of X Gn xA6), exm_sub xe6 xd6 xy6 xx99, kit_sub xd6 xy6 xw6 xx99, ⟨xg9, xh9, xe9, xd9, xo9, xhn, xht, xm9⟩⟩)
      (xs_cons (⟨X10, .ref X6, .ref X6, rfl, rel_ref _, (xmOf_at rfl xA10).1, .inl (PySem.W.mg_of X Gn xA6), exm_sub xe6 xd6 xy6 xx100, kit_sub xd6 xy6 xw6 xx100, ⟨xg10, xh10, xe10, xd10, xo10, xhn, xht, xm10⟩⟩)
      (xs_cons (⟨X11, .ref X6, .ref X6, rfl, rel_ref _, (xmOf_at rfl xA11).1, .inl (PySem.W.mg_of X Gn xA6), exm_sub xe6 xd6 xy6 xx101, kit_sub xd6 xy6 xw6 xx101, ⟨xg11, xh11, xe11, xd11, xo11, xhn, xht, xm11⟩⟩)
      (xs_cons (⟨X12, .ref X6, .ref X6, rfl, rel_ref _, (xmOf_at rfl xA12).1, .inl (PySem.W.mg_of X Gn xA6), exm_sub xe6 xd6 xy6 xx102, kit_sub xd6 xy6 xw6 xx102, ⟨xg12, xh12, xe12, xd12, xo12, xhn, xht, xm12⟩⟩)
      (xs_cons (⟨X13, .ref X6, .ref X6, rfl, rel_ref _, (xmOf_at rfl xA13).1, .inl (PySem.W.mg_of X Gn xA6), exm_sub xe6 xd6 xy6 xx103, kit_sub xd6 xy6 xw6 xx103, ⟨xg13, xh13, xe13, xd13, xo13, xhn, xht, xm13⟩⟩)
      (xs_cons (⟨X14, .ref X6, .ref X6, rfl, rel_ref _, (xmOf_at rfl xA14).1, .inl (PySem.W.mg_of X Gn xA6), exm_sub xe6 xd6 xy6 xx104, kit_sub xd6 xy6 xw6 xx104, ⟨xg14, xh14, xe14, xd14, xo14, xhn, xht, xm14⟩⟩)
      (xs_nil)))))))))))))))
    have xs_7_ : ∀ q ∈ xs_7, XsP K mg G q := xs_cons (⟨X0, .ref X7, .ref X7, rfl, rel_ref _, (xmOf_at rfl xA0).1, .inl (PySem.W.mg_of X Gn xA7), exm_sub xe7 xd7 xy7 xx105, kit_sub xd7 xy7 xw7 xx105, ⟨xg0, xh0, xe0, xd0, xo0, xhn, xht, xm0⟩⟩)
      (xs_cons (⟨X1, .ref X7, .ref X7, rfl, rel_ref _, (xmOf_at rfl xA1).1, .inl (PySem.W.mg_of X Gn xA7), exm_sub xe7 xd7 xy7 xx106, kit_sub xd7 xy7 xw7 xx106, ⟨xg1, xh1, xe1, xd1, xo1, xhn, xht, xm1⟩⟩)
      (xs_cons (⟨X2, .ref X7, .ref X7, rfl, rel_ref _, (xmOf_at rfl xA2).1, .inl (PySem.W.mg_of X Gn xA7), exm_sub xe7 xd7 xy7 xx107, kit_sub xd7 xy7 xw7 xx107, ⟨xg2, xh2, xe2, xd2, xo2, xhn, xht, xm2⟩⟩)
      (xs_cons (⟨X3, .ref X7, .ref X7, rfl, rel_ref _, (xmOf_at rfl xA3).1, .inl (PySem.W.mg_of X Gn xA7), exm_sub xe7 xd7 xy7 xx108, kit_sub xd7 xy7 xw7 xx108, ⟨xg3, xh3, xe3, xd3, xo3, xhn, xht, xm3⟩⟩)
      (xs_cons (⟨X4, .ref X7, .ref X7, rfl, rel_ref _, (xmOf_at rfl xA4).1, .inl (PySem.W.mg_of X Gn xA7), exm_sub xe7 xd7 xy7 xx109, kit_sub xd7 xy7 xw7 xx109, ⟨xg4, xh4, xe4, xd4, xo4, xhn, xht, xm4⟩⟩)
      (xs_cons (⟨X5, .ref X7, .ref X7, rfl, rel_ref _, (xmOf_at rfl xA5).1, .inl (PySem.W.mg_of X Gn xA7), exm_sub xe7 xd7 xy7 xx110, kit_sub xd7 xy7 xw7 xx110, ⟨xg5, xh5, xe5, xd5, xo5, xhn, xht, xm5⟩⟩)
      (xs_cons (⟨X6, .ref X7, .ref X7, rfl, rel_ref _, (xmOf_at rfl xA6).1, .inl (PySem.W.mg_of X Gn xA7), exm_sub xe7 xd7 xy7 xx111, kit_sub xd7 xy7 xw7 xx111, ⟨xg6, xh6, xe6, xd6, xo6, xhn, xht, xm6⟩⟩)
      (xs_cons (⟨X7, .ref X7, .ref X7, rfl, rel_ref _, (xmOf_at rfl xA7).1, .inl (PySem.W.mg_of X Gn xA7), exm_sub xe7 xd7 xy7 xx112, kit_sub xd7 xy7 xw7 xx112, ⟨xg7, xh7, xe7, xd7, xo7, xhn, xht, xm7⟩⟩)
      (xs_cons (⟨X8, .ref X7, .ref X7, rfl, rel_ref _, (xmOf_at rfl xA8).1, .inl (PySem.W.mg_of X Gn xA7), exm_sub xe7 xd7 xy7 xx113, kit_sub xd7 xy7 xw7 xx113, ⟨xg8, xh8, xe8, xd8, xo8, xhn, xht, xm8⟩⟩)
      (xs_cons (⟨X9, .ref X7, .ref X7, rfl, rel_ref _, (xmOf_at rfl xA9).1, .inl (PySem.W.mg_of X Gn xA7), exm_sub xe7 xd7 xy7 xx114, kit_sub xd7 xy7 xw7 xx114, ⟨xg9, xh9, xe9, xd9, xo9, xhn, xht, xm9⟩⟩)
      (xs_cons (⟨X10, .ref X7, .ref X7, rfl, rel_ref _, (xmOf_at rfl xA10).1, .inl (PySem.W.mg_of X Gn xA7), exm_sub xe7 xd7 xy7 xx115, kit_sub xd7 xy7 xw7 xx115, ⟨xg10, xh10, xe10, xd10, xo10, xhn, xht, xm10⟩⟩)
      (xs_cons (⟨X11, .ref X7, .ref X7, rfl, rel_ref _, (xmOf_at rfl xA11).1, .inl (PySem.W.mg_of X Gn xA7), exm_sub xe7 xd7 xy7 xx116, kit_sub xd7 xy7 xw7 xx116, ⟨xg11, xh11, xe11, xd11, xo11, xhn, xht, xm11⟩⟩)
      (xs_cons (⟨X12, .ref X7, .ref X7, rfl, rel_ref _, (xmOf_at rfl xA12).1, .inl (PySem.W.mg_of X Gn xA7), exm_sub xe7 xd7 xy7 xx117, kit_sub xd7 xy7 xw7 xx117, ⟨xg12, xh12, xe12, xd12, xo12, xhn, xht, xm12⟩⟩)
      (xs_cons (⟨X13, .ref X7, .ref X7, rfl, rel_ref _, (xmOf_at rfl xA13).1, .inl (PySem.W.mg_of X Gn xA7), exm_sub xe7 xd7 xy7 xx118, kit_sub xd7 xy7 xw7 xx118, ⟨xg13, xh13, xe13, xd13, xo13, xhn, xht, xm13⟩⟩)
      (xs_cons (⟨X14, .ref X7, .ref X7, rfl, rel_ref _, (xmOf_at rfl xA14).1, .inl (PySem.W.mg_of X Gn xA7), exm_sub xe7 xd7 xy7 xx119, kit_sub xd7 xy7 xw7 xx119, ⟨xg14, xh14, xe14, xd14, xo14, xhn, xht, xm14⟩⟩)
      (xs_nil)))))))))))))))
    have xs_8_ : ∀ q ∈ xs_8, XsP K mg G q := xs_cons (⟨X0, .ref X8, .ref X8, rfl, rel_ref _, (xmOf_at rfl xA0).1, .inl (PySem.W.mg_of X Gn xA8), exm_sub xe8 xd8 xy8 xx120, kit_sub xd8 xy8 xw8 xx120, ⟨xg0, xh0, xe0, xd0, xo0, xhn, xht, xm0⟩⟩)
      (xs_cons (⟨X1, .ref X8, .ref X8, rfl, rel_ref _, (xmOf_at rfl xA1).1, .inl (PySem.W.mg_of X Gn xA8), exm_sub xe8 xd8 xy8 xx121, kit_sub xd8 xy8 xw8 xx121, ⟨xg1, xh1, xe1, xd1, xo1, xhn, xht, xm1⟩⟩)
      (xs_cons (⟨X2, .ref X8, .ref X8, rfl, rel_ref _, (xmOf_at rfl xA2).1, .inl (PySem.W.mg_of X Gn xA8), exm_sub xe8 xd8 xy8 xx122, kit_sub xd8 xy8 xw8 xx122, ⟨xg2, xh2, xe2, xd2, xo2, xhn, xht, xm2⟩⟩)
      (xs_cons (⟨X3, .ref X8, .ref X8, rfl, rel_ref _, (xmOf_at rfl xA3).1, .inl (PySem.W.mg_of X Gn xA8), exm_sub xe8 xd8 xy8 xx123, kit_sub xd8 xy8 xw8 xx123, ⟨xg3, xh3, xe3, xd3, xo3, xhn, xht, xm3⟩⟩)
      (xs_cons (⟨X4, .ref X8, .ref X8, rfl, rel_ref _, (xmOf_at rfl xA4).1, .inl (PySem.W.mg_of X Gn xA8), exm_sub xe8 xd8 xy8 xx124, kit_sub xd8 xy8 xw8 xx124, ⟨xg4, xh4, xe4, xd4, xo4, xhn, xht, xm4⟩⟩)
      (xs_cons (⟨X5, .ref X8, .ref X8, rfl, rel_ref _, (xmOf_at rfl xA5).1, .inl (PySem.W.mg_of X Gn xA8), exm_sub xe8 xd8 xy8 xx125, kit_sub xd8 xy8 xw8 xx125, ⟨xg5, xh5, xe5, xd5, xo5, xhn, xht, xm5⟩⟩)
      (xs_cons (⟨X6, .ref X8, .ref X8, rfl, rel_ref _, (xmOf_at rfl xA6).1, .inl (PySem.W.mg_of X Gn xA8), exm_sub xe8 xd8 xy8 xx126, kit_sub xd8 xy8 xw8 xx126, ⟨xg6, xh6, xe6, xd6, xo6, xhn, xht, xm6⟩⟩)
      (xs_cons (⟨X7, .ref X8, .ref X8, rfl, rel_ref _, (xmOf_at rfl xA7).1, .inl (PySem.W.mg_of X Gn xA8), exm_sub xe8 xd8 xy8 xx127, kit_sub xd8 xy8 xw8 xx127, ⟨xg7, xh7, xe7, xd7, xo7, xhn, xht, xm7⟩⟩)
      (xs_cons (⟨X8, .ref X8, .ref X8, rfl, rel_ref _, (xmOf_at rfl xA8).1, .inl (PySem.W.mg_of X Gn xA8), exm_sub xe8 xd8 xy8 xx128, kit_sub xd8 xy8 xw8 xx128, ⟨xg8, xh8, xe8, xd8, xo8, xhn, xht, xm8⟩⟩)
      (xs_cons (⟨X9, .ref X8, .ref X8, rfl, rel_ref _, (xmOf_at rfl xA9).1, .inl (PySem.W.mg_of X Gn xA8), exm_sub xe8 xd8 xy8 xx129, kit_sub xd8 xy8 xw8 xx129, ⟨xg9, xh9, xe9, xd9, xo9, xhn, xht, xm9⟩⟩)
      (xs_cons (⟨X10, .ref X8, .ref X8, rfl, rel_ref _, (xmOf_at rfl xA10).1, .inl (PySem.W.mg_of X Gn xA8), exm_sub xe8 xd8 xy8 xx130, kit_sub xd8 xy8 xw8 xx130, ⟨xg10, xh10, xe10, xd10, xo10, xhn, xht, xm10⟩⟩)
      (xs_cons (⟨X11, .ref X8, .ref X8, rfl, rel_ref _, (xmOf_at rfl xA11).1, .inl (PySem.W.mg_of X Gn xA8), exm_sub xe8 xd8 xy8 xx131, kit_sub xd8 xy8 xw8 xx131, ⟨xg11, xh11, xe11, xd11, xo11, xhn, xht, xm11⟩⟩)
      (xs_cons (⟨X12, .ref X8, .ref X8, rfl, rel_ref _, (xmOf_at rfl xA12).1, .inl (PySem.W.mg_of X Gn xA8), exm_sub xe8 xd8 xy8 xx132, kit_sub xd8 xy8 xw8 xx132, ⟨xg12, xh12, xe12, xd12, xo12, xhn, xht, xm12⟩⟩)
      (xs_cons (⟨X13, .ref X8, .ref X8, rfl, rel_ref _, (xmOf_at rfl xA13).1, .inl (PySem.W.mg_of X Gn xA8), exm_sub xe8 xd8 xy8 xx133, kit_sub xd8 xy8 xw8 xx133, ⟨xg13, xh13, xe13, xd13, xo13, xhn, xht, xm13⟩⟩)
      (xs_cons (⟨X14, .ref X8, .ref X8, rfl, rel_ref _, (xmOf_at rfl xA14).1, .inl (PySem.W.mg_of X Gn xA8), exm_sub xe8 xd8 xy8 xx134, kit_sub xd8 xy8 xw8 xx134, ⟨xg14, xh14, xe14, xd14, xo14, xhn, xht, xm14⟩⟩)
      (xs_nil)))))))))))))))
    have xs_9_ : ∀ q ∈ xs_9, XsP K mg G q := xs_cons (⟨X0, .ref X9, .ref X9, rfl, rel_ref _, (xmOf_at rfl xA0).1, .inl (PySem.W.mg_of X Gn xA9), exm_sub xe9 xd9 xy9 xx135, kit_sub xd9 xy9 xw9 xx135, ⟨xg0, xh0, xe0, xd0, xo0, xhn, xht, xm0⟩⟩)
      (xs_cons (⟨X1, .ref X9, .ref X9, rfl, rel_ref _, (xmOf_at rfl xA1).1, .inl (PySem.W.mg_of X Gn xA9), exm_sub xe9 xd9 xy9 xx136, kit_sub xd9 xy9 xw9 xx136, ⟨xg1, xh1, xe1, xd1, xo1, xhn, xht, xm1⟩⟩)
      (xs_cons (⟨X2, .ref X9, .ref X9, rfl, rel_ref _, (xmOf_at rfl xA2).1, .inl (PySem.W.mg_of X Gn xA9), exm_sub xe9 xd9 xy9 xx137, kit_sub xd9 xy9 xw9 xx137, ⟨xg2, xh2, xe2, xd2, xo2, xhn, xht, xm2⟩⟩)
      (xs_cons (⟨X3, .ref X9, .ref X9, rfl, rel_ref _, (xmOf_at rfl xA3).1, .inl (PySem.W.mg_of X Gn xA9), exm_sub xe9 xd9 xy9 xx138, kit_sub xd9 xy9 xw9 xx138, ⟨xg3, xh3, xe3, xd3, xo3, xhn, xht, xm3⟩⟩)
      (xs_cons (⟨X4, .ref X9, .ref X9, rfl, rel_ref _, (xmOf_at rfl xA4).1, .inl (PySem.W.mg_of X Gn xA9), exm_sub xe9 xd9 xy9 xx139, kit_sub xd9 xy9 xw9 xx139, ⟨xg4, xh4, xe4, xd4, xo4, xhn, xht, xm4⟩⟩)
      (xs_cons (⟨X5, .ref X9, .ref X9, rfl, rel_ref _, (xmOf_at rfl xA5).1, .inl (PySem.W.mg_of X Gn xA9), exm_sub xe9 xd9 xy9 xx140, kit_sub xd9 xy9 xw9 xx140, ⟨xg5, xh5, xe5, xd5, xo5, xhn, xht, xm5⟩⟩)
      (xs_cons (⟨X6, .ref X9, .ref X9, rfl, rel_ref _, (xmOf_at rfl xA6).1, .inl (PySem.W.mg_of X Gn xA9), exm_sub xe9 xd9 xy9 xx141, kit_sub xd9 xy9 xw9 xx141, ⟨xg6, xh6, xe6, xd6, xo6, xhn, xht, xm6⟩⟩)
      (xs_cons (⟨X7, .ref X9, .ref X9, rfl, rel_ref _, (xmOf_at rfl xA7).1, .inl (PySem.W.mg_of X Gn xA9), exm_sub xe9 xd9 xy9 xx142, kit_sub xd9 xy9 xw9 xx142, ⟨xg7, xh7, xe7, xd7, xo7, xhn, xht, xm7⟩⟩)
      (xs_cons (⟨X8, .ref X9, .ref X9, rfl, rel_ref _, (xmOf_at rfl xA8).1, .inl (PySem.W.mg_of X Gn xA9), exm_sub xe9 xd9 xy9 xx143, kit_sub xd9 xy9 xw9 xx143, ⟨xg8, xh8, xe8, xd8, xo8, xhn, xht, xm8⟩⟩)
      (xs_cons (⟨X9, .ref X9, .ref X9, rfl, rel_ref _, (xmOf_at rfl xA9).1, .inl (PySem.W.mg_of X Gn xA9), exm_sub xe9 xd9 xy9 xx144, kit_sub xd9 xy9 xw9 xx144, ⟨xg9, xh9, xe9, xd9, xo9, xhn, xht, xm9⟩⟩)
      (xs_cons (⟨X10, .ref X9, .ref X9, rfl, rel_ref _, (xmOf_at rfl xA10).1, .inl (PySem.W.mg_of X Gn xA9), exm_sub xe9 xd9 xy9 xx145, kit_sub xd9 xy9 xw9 xx145, ⟨xg10, xh10, xe10, xd10, xo10, xhn, xht, xm10⟩⟩)
      (xs_cons (⟨X11, .ref X9, .ref X9, rfl, rel_ref _, (xmOf_at rfl xA11).1, .inl (PySem.W.mg_of X Gn xA9), exm_sub xe9 xd9 xy9 xx146, kit_sub xd9 xy9 xw9 xx146, ⟨xg11, xh11, xe11, xd11, xo11, xhn, xht, xm11⟩⟩)
      (xs_cons (⟨X12, .ref X9, .ref X9, rfl, rel_ref _, (xmOf_at rfl xA12).1, .inl (PySem.W.mg_of X Gn xA9), exm_sub xe9 xd9 xy9 xx147, kit_sub xd9 xy9 xw9 xx147, ⟨xg12, xh12, xe12, xd12, xo12, xhn, xht, xm12⟩⟩)
      (xs_cons (⟨X13, .ref X9, .ref X9, rfl, rel_ref _, (xmOf_at rfl xA13).1, .inl (PySem.W.mg_of X Gn xA9), exm_sub xe9 xd9 xy9 xx148, kit_sub xd9 xy9 xw9 xx148, ⟨xg13, xh13, xe13, xd13, xo13, xhn, xht, xm13⟩⟩)
      (xs_cons (⟨X14, .ref X9, .ref X9, rfl, rel_ref _, (xmOf_at rfl xA14).1, .inl (PySem.W.mg_of X Gn xA9), exm_sub xe9 xd9 xy9 xx149, kit_sub xd9 xy9 xw9 xx149, ⟨xg14, xh14, xe14, xd14, xo14, xhn, xht, xm14⟩⟩)
      (xs_nil)))))))))))))))
    have xs_10_ : ∀ q ∈ xs_10, XsP K mg G q := xs_cons (⟨X0, .ref X10, .ref X10, rfl, rel_ref _, (xmOf_at rfl xA0).1, .inl (PySem.W.mg_of X Gn xA10), exm_sub xe10 xd10 xy10 xx150, kit_sub xd10 xy10 xw10 xx150, ⟨xg0, xh0, xe0, xd0, xo0, xhn, xht, xm0⟩⟩)
      (xs_cons (⟨X1, .ref X10, .ref X10, rfl, rel_ref _, (xmOf_at rfl xA1).1, .inl (PySem.W.mg_of X Gn xA10), exm_sub xe10 xd10 xy10 xx151, kit_sub xd10 xy10 xw10 xx151, ⟨xg1, xh1, xe1, xd1, xo1, xhn, xht, xm1⟩⟩)
      (xs_cons (⟨X2, .ref X10, .ref X10, rfl, rel_ref _, (xmOf_at rfl xA2).1, .inl (PySem.W.mg_of X Gn xA10), exm_sub xe10 xd10 xy10 xx152, kit_sub xd10 xy10 xw10 xx152, ⟨xg2, xh2, xe2, xd2, xo2, xhn, xht, xm2⟩⟩)
      (xs_cons (⟨X3, .ref X10, .ref X10, rfl, rel_ref _, (xmOf_at rfl xA3).1, .inl (PySem.W.mg_of X Gn xA10), exm_sub xe10 xd10 xy10 xx153, kit_sub xd10 xy10 xw10 xx153, ⟨xg3, xh3, xe3, xd3, xo3, xhn, xht, xm3⟩⟩)
      (xs_cons (⟨X4, .ref X10, .ref X10, rfl, rel_ref _, (xmOf_at rfl xA4).1, .inl (PySem.W.mg_of X Gn xA10), exm_sub xe10 xd10 xy10 xx154, kit_sub xd10 xy10 xw10 xx154, ⟨xg4, xh4, xe4, xd4, xo4, xhn, xht, xm4⟩⟩)
      (xs_cons (⟨X5, .ref X10, .ref X10, rfl, rel_ref _, (xmOf_at rfl xA5).1, .inl (PySem.W.mg_of X Gn xA10), exm_sub xe10 xd10 xy10 xx155, kit_sub xd10 xy10 xw10 xx155, ⟨xg5, xh5, xe5, xd5, xo5, xhn, xht, xm5⟩⟩)
      (xs_cons (⟨X6, .ref X10, .ref X10, rfl, rel_ref _, (xmOf_at rfl xA6).1, .inl (PySem.W.mg_of X Gn xA10), exm_sub xe10 xd10 xy10 xx156, kit_sub xd10 xy10 xw10 xx156, ⟨xg6, xh6, xe6, xd6, xo6, xhn, xht, xm6⟩⟩)
      (xs_cons (⟨X7, .ref X10, .ref X10, rfl, rel_ref _, (xmOf_at rfl xA7).1, .inl (PySem.W.mg_of X Gn xA10), exm_sub xe10 xd10 xy10 xx157, kit_sub xd10 xy10 xw10 xx157, ⟨xg7, xh7, xe7, xd7, xo7, xhn, xht, xm7⟩⟩)
      (xs_cons (⟨X8, .ref X10, .ref X10, rfl, rel_ref _, (xmOf_at rfl xA8).1, .inl (PySem.W.mg_of X Gn xA10), exm_sub xe10 xd10 xy10 xx158, kit_sub xd10 xy10 xw10 xx158, ⟨xg8, xh8, xe8, xd8, xo8, xhn, xht, xm8⟩⟩)
      (xs_cons (⟨X9, .ref X10, .ref X10, rfl, rel_ref _, (xmOf_at rfl xA9).1, .inl (PySem.W.mg_of X Gn xA10), exm_sub xe10 xd10 xy10 xx159, kit_sub xd10 xy10 xw10 xx159, ⟨xg9, xh9, xe9, xd9, xo9, xhn, xht, xm9⟩⟩)
      (xs_cons (⟨X10, .ref X10, .ref X10, rfl, rel_ref _, (xmOf_at rfl xA10).1, .inl (PySem.W.mg_of X Gn xA10), exm_sub xe10 xd10 xy10 xx160, kit_sub xd10 xy10 xw10 xx160, ⟨xg10, xh10, xe10, xd10, xo10, xhn, xht, xm10⟩⟩)
      (xs_cons (⟨X11, .ref X10, .ref X10, rfl, rel_ref _, (xmOf_at rfl xA11).1, .inl (PySem.W.mg_of X Gn xA10), exm_sub xe10 xd10 xy10 xx161, kit_sub xd10 xy10 xw10 xx161, ⟨xg11, xh11, xe11, xd11, xo11, xhn, xht, xm11⟩⟩)
      (xs_cons (⟨X12, .ref X10, .ref X10, rfl, rel_ref _, (xmOf_at rfl xA12).1, .inl (PySem.W.mg_of X Gn xA10), exm_sub xe10 xd10 xy10 xx162, kit_sub xd10 xy10 xw10 xx162, ⟨xg12, xh12, xe12, xd12, xo12, xhn, xht, xm12⟩⟩)
      (xs_cons (⟨X13, .ref X10, .ref X10, rfl, rel_ref _, (xmOf_at rfl xA13).1, .inl (PySem.W.mg_of X Gn xA10), exm_sub xe10 xd10 xy10 xx163, kit_sub xd10 xy10 xw10 xx163, ⟨xg13, xh13, xe13, xd13, xo13, xhn, xht, xm13⟩⟩)
      (xs_cons (⟨X14, .ref X10, .ref X10, rfl, rel_ref _, (xmOf_at rfl xA14).1, .inl (PySem.W.mg_of X Gn xA10), exm_sub xe10 xd10 xy10 xx164, kit_sub xd10 xy10 xw10 xx164, ⟨xg14, xh14, xe14, xd14, xo14, xhn, xht, xm14⟩⟩)
      (xs_nil)))))))))))))))
    have xs_11_ : ∀ q ∈ xs_11, XsP K mg G q := xs_cons (⟨X0, .ref X11, .ref X11, rfl, rel_ref _, (xmOf_at rfl xA0).1, .inl (PySem.W.mg_of X Gn xA11), exm_sub xe11 xd11 xy11 xx165, kit_sub xd11 xy11 xw11 xx165, ⟨xg0, xh0, xe0, xd0, xo0, xhn, xht, xm0⟩⟩)
      (xs_cons (⟨X1, .ref X11, .ref X11, rfl, rel_ref _, (xmOf_at rfl xA1).1, .inl (PySem.W.mg_of X Gn xA11), exm_sub xe11 xd11 xy11 xx166, kit_sub xd11 xy11 xw11 xx166, ⟨xg1, xh1, xe1, xd1, xo1, xhn, xht, xm1⟩⟩)
      (xs_cons (⟨X2, .ref X11, .ref X11, rfl, rel_ref _, (xmOf_at rfl xA2).1, .inl (PySem.W.mg_of X Gn xA11), exm_sub xe11 xd11 xy11 xx167, kit_sub xd11 xy11 xw11 xx167, ⟨xg2, xh2, xe2, xd2, xo2, xhn, xht, xm2⟩⟩)
      (xs_cons (⟨X3, .ref X11, .ref X11, rfl, rel_ref _, (xmOf_at rfl xA3).1, .inl (PySem.W.mg_of X Gn xA11), exm_sub xe11 xd11 xy11 xx168, kit_sub xd11 xy11 xw11 xx168, ⟨xg3, xh3, xe3, xd3, xo3, xhn, xht, xm3⟩⟩)
      (xs_cons (⟨X4, .ref X11, .ref X11, rfl, rel_ref _, (xmOf_at rfl xA4).1, .inl (PySem.W.mg_of X Gn xA11), exm_sub xe11 xd11 xy11 xx169, kit_sub xd11 xy11 xw11 xx169, ⟨xg4, xh4, xe4, xd4, xo4, xhn, xht, xm4⟩⟩)
      (xs_cons (⟨X5, .ref X11, .ref X11, rfl, rel_ref _, (xmOf_at rfl xA5).1, .inl (PySem.W.mg_of X Gn xA11), exm_sub xe11 xd11 xy11 xx170, kit_sub xd11 xy11 xw11 xx170, ⟨xg5, xh5, xe5, xd5, xo5, xhn, xht, xm5⟩⟩)
      (xs_cons (⟨X6, .ref X11, .ref X11, rfl, rel_ref _, (xmOf_at rfl xA6).1, .inl (PySem.W.mg_of X Gn xA11), exm_sub xe11 xd11 xy11 xx171, kit_sub xd11 xy11 xw11 xx171, ⟨xg6, xh6, xe6, xd6, xo6, xhn, xht, xm6⟩⟩)
      (xs_cons (⟨X7, .ref X11, .ref X11, rfl, rel_ref _, (xmOf_at rfl xA7).1, .inl (PySem.W.mg_of X Gn xA11), exm_sub xe11 xd11 xy11 xx172, kit_sub xd11 xy11 xw11 xx172, ⟨xg7, xh7, xe7, xd7, xo7, xhn, xht, xm7⟩⟩)
      (xs_cons (⟨X8, .ref X11, .ref X11, rfl, rel_ref _, (xmOf_at rfl xA8).1, .inl (PySem.W.mg_of X Gn xA11), exm_sub xe11 xd11 xy11 xx173, kit_sub xd11 xy11 xw11 xx173, ⟨xg8, xh8, xe8, xd8, xo8, xhn, xht, xm8⟩⟩)
      (xs_cons (⟨X9, .ref X11, .ref X11, rfl, rel_ref _, (xmOf_at rfl xA9).1, .inl (PySem.W.mg_of X Gn xA11), exm_sub xe11 xd11 xy11 xx174, kit_sub xd11 xy11 xw11 xx174, ⟨xg9, xh9, xe9, xd9, xo9, xhn, xht, xm9⟩⟩)
      (xs_cons (⟨X10, .ref X11, .ref X11, rfl, rel_ref _, (xmOf_at rfl xA10).1, .inl (PySem.W.mg_of X Gn xA11), exm_sub xe11 xd11 xy11 xx175, kit_sub xd11 xy11 xw11 xx175, ⟨xg10, xh10, xe10, xd10, xo10, xhn, xht, xm10⟩⟩)
      (xs_cons (⟨X11, .ref X11, .ref X11, rfl, rel_ref _, (xmOf_at rfl xA11).1, .inl (PySem.W.mg_of X Gn xA11), exm_sub xe11 xd11 xy11 xx176, kit_sub xd11 xy11 xw11 xx176, ⟨xg11, xh11, xe11, xd11, xo11, xhn, xht, xm11⟩⟩)
      (xs_cons (⟨X12, .ref X11, .ref X11, rfl, rel_ref _, (xmOf_at rfl xA12).1, .inl (PySem.W.mg_of X Gn xA11), exm_sub xe11 xd11 xy11 xx177, kit_sub xd11 xy11 xw11 xx177, ⟨xg12, xh12, xe12, xd12, xo12, xhn, xht, xm12⟩⟩)
      (xs_cons (⟨X13, .ref X11, .ref X11, rfl, rel_ref _, (xmOf_at rfl xA13).1, .inl (PySem.W.mg_of X Gn xA11), exm_sub xe11 xd11 xy11 xx178, kit_sub xd11 xy11 xw11 xx178, ⟨xg13, xh13, xe13, xd13, xo13, xhn, xht, xm13⟩⟩)
      (xs_cons (⟨X14, .ref X11, .ref X11, rfl, rel_ref _, (xmOf_at rfl xA14).1, .inl (PySem.W.mg_of X Gn xA11), exm_sub xe11 xd11 xy11 xx179, kit_sub xd11 xy11 xw11 xx179, ⟨xg14, xh14, xe14, xd14, xo14, xhn, xht, xm14⟩⟩)
      (xs_nil)))))))))))))))
    have xs_12_ : ∀ q ∈ xs_12, XsP K mg G q := xs_cons (⟨X0, .ref X12, .ref X12, rfl, rel_ref _, (xmOf_at rfl xA0).1, .inl (PySem.W.mg_of X Gn xA12), exm_sub xe12 xd12 xy12 xx180, kit_sub xd12 xy12 xw12 xx180, ⟨xg0, xh0, xe0, xd0, xo0, xhn, xht, xm0⟩⟩)
      (xs_cons (⟨X1, .ref X12, .ref X12, rfl, rel_ref _, (xmOf_at rfl xA1).1, .inl (PySem.W.mg_of X Gn xA12), exm_sub xe12 xd12 xy12 xx181, kit_sub xd12 xy12 xw12 xx181, ⟨xg1, xh1, xe1, xd1, xo1, xhn, xht, xm1⟩⟩)
      (xs_cons (⟨X2, .ref X12, .ref X12, rfl, rel_ref _, (xmOf_at rfl xA2).1, .inl (PySem.W.mg_of X Gn xA12), exm_sub xe12 xd12 xy12 xx182, kit_sub xd12 xy12 xw12 xx182, ⟨xg2, xh2, xe2, xd2, xo2, xhn, xht, xm2⟩⟩)
      (xs_cons (⟨X3, .ref X12, .ref X12, rfl, rel_ref _, (xmOf_at rfl xA3).1, .inl (PySem.W.mg_of X Gn xA12), exm_sub xe12 xd12 xy12 xx183, kit_sub xd12 xy12 xw12 xx183, ⟨xg3, xh3, xe3, xd3, xo3, xhn, xht, xm3⟩⟩)
      (xs_cons (⟨X4, .ref X12, .ref X12, rfl, rel_ref _, (xmOf_at rfl xA4).1, .inl (PySem.W.mg_of X Gn xA12), exm_sub xe12 xd12 xy12 xx184, kit_sub xd12 xy12 xw12 xx184, ⟨xg4, xh4, xe4, xd4, xo4, xhn, xht, xm4⟩⟩)
      (xs_cons (⟨X5, .ref X12, .ref X12, rfl, rel_ref _, (xmOf_at rfl xA5).1, .inl (PySem.W.mg_of X Gn xA12), exm_sub xe12 xd12 xy12 xx185, kit_sub xd12 xy12 xw12 xx185, ⟨xg5, xh5, xe5, xd5, xo5, xhn, xht, xm5⟩⟩)
      (xs_cons (⟨X6, .ref X12, .ref X12, rfl, rel_ref _, (xmOf_at rfl xA6).1, .inl (PySem.W.mg_of X Gn xA12), exm_sub xe12 xd12 xy12 xx186, kit_sub xd12 xy12 xw12 xx186, ⟨xg6, xh6, xe6, xd6, xo6, xhn, xht, xm6⟩⟩)
      (xs_cons (⟨X7, .ref X12, .ref X12, rfl, rel_ref _, (xmOf_at rfl xA7).1, .inl (PySem.W.mg_of X Gn xA12), exm_sub xe12 xd12 xy12 xx187, kit_sub xd12 xy12 xw12 xx187, ⟨xg7, xh7, xe7, xd7, xo7, xhn, xht, xm7⟩⟩)
      (xs_cons (⟨X8, .ref X12, .ref X12, rfl, rel_ref _, (xmOf_at rfl xA8).1, .inl (PySem.W.mg_of X Gn xA12), exm_sub xe12 xd12 xy12 xx188, kit_sub xd12 xy12 xw12 xx188, ⟨xg8, xh8, xe8, xd8, xo8, xhn, xht, xm8⟩⟩)
      (xs_cons (⟨X9, .ref X12, .ref X12, rfl, rel_ref _, (xmOf_at rfl xA9).1, .inl (PySem.W.mg_of X Gn xA12), exm_sub xe12 xd12 xy12 xx189, kit_sub xd12 xy12 xw12 xx189, ⟨xg9, xh9, xe9, xd9, xo9, xhn, xht, xm9⟩⟩)
      (xs_cons (⟨X10, .ref X12, .ref X12, rfl, rel_ref _, (xmOf_at rfl xA10).1, .inl (PySem.W.mg_of X Gn xA12), exm_sub xe12 xd12 xy12 xx190, kit_sub xd12 xy12 xw12 xx190, ⟨xg10, xh10, xe10, xd10, xo10, xhn, xht, xm10⟩⟩)
      (xs_cons (⟨X11, .ref X12, .ref X12, rfl, rel_ref _, (xmOf_at rfl xA11).1, .inl (PySem.W.mg_of X Gn xA12), exm_sub xe12 xd12 xy12 xx191, kit_sub xd12 xy12 xw12 xx191, ⟨xg11, xh11, xe11, xd11, xo11, xhn, xht, xm11⟩⟩)
      (xs_cons (⟨X12, .ref X12, .ref X12, rfl, rel_ref _, (xmOf_at rfl xA12).1, .inl (PySem.W.mg_of X Gn xA12), exm_sub xe12 xd12 xy12 xx192, kit_sub xd12 xy12 xw12 xx192, ⟨xg12, xh12, xe12, xd12, xo12, xhn, xht, xm12⟩⟩)
      (xs_cons (⟨X13, .ref X12, .ref X12, rfl, rel_ref _, (xmOf_at rfl xA13).1, .inl (PySem.W.mg_of X Gn xA12), exm_sub xe12 xd12 xy12 xx193, kit_sub xd12 xy12 xw12 xx193, ⟨xg13, xh13, xe13, xd13, xo13, xhn, xht, xm13⟩⟩)
      (xs_cons (⟨X14, .ref X12, .ref X12, rfl, rel_ref _, (xmOf_at rfl xA14).1, .inl (PySem.W.mg_of X Gn xA12), exm_sub xe12 xd12 xy12 xx194, kit_sub xd12 xy12 xw12 xx194, ⟨xg14, xh14, xe14, xd14, xo14, xhn, xht, xm14⟩⟩)
      (xs_nil)))))))))))))))
    have xs_13_ : ∀ q ∈ xs_13, XsP K mg G q := xs_cons (⟨X0, .ref X13, .ref X13, rfl, rel_ref _, (xmOf_at rfl xA0).1, .inl (PySem.W.mg_of X Gn xA13), exm_sub xe13 xd13 xy13 xx195, kit_sub xd13 xy13 xw13 xx195, ⟨xg0, xh0, xe0, xd0, xo0, xhn, xht, xm0⟩⟩)
      (xs_cons (⟨X1, .ref X13, .ref X13, rfl, rel_ref _, (xmOf_at rfl xA1).1, .inl (PySem.W.mg_of X Gn xA13), exm_sub xe13 xd13 xy13 xx196, kit_sub xd13 xy13 xw13 xx196, ⟨xg1, xh1, xe1, xd1, xo1, xhn, xht, xm1⟩⟩)
      (xs_cons (⟨X2, .ref X13, .ref X13, rfl, rel_ref _, (xmOf_at rfl xA2).1, .inl (PySem.W.mg_of X Gn xA13), exm_sub xe13 xd13 xy13 xx197, kit_sub xd13 xy13 xw13 xx197, ⟨xg2, xh2, xe2, xd2, xo2, xhn, xht, xm2⟩⟩)
      (xs_cons (⟨X3, .ref X13, .ref X13, rfl, rel_ref _, (xmOf_at rfl xA3).1, .inl (PySem.W.mg_of X Gn xA13), exm_sub xe13 xd13 xy13 xx198, kit_sub xd13 xy13 xw13 xx198, ⟨xg3, xh3, xe3, xd3, xo3, xhn, xht, xm3⟩⟩)
      (xs_cons (⟨X4, .ref X13, .ref X13, rfl, rel_ref _, (xmOf_at rfl xA4).1, .inl (PySem.W.mg_of X Gn xA13), exm_sub xe13 xd13 xy13 xx199, kit_sub xd13 xy13 xw13 xx199, ⟨xg4, xh4, xe4, xd4, xo4, xhn, xht, xm4⟩⟩)
      (xs_cons (⟨X5, .ref X13, .ref X13, rfl, rel_ref _, (xmOf_at rfl xA5).1, .inl (PySem.W.mg_of X Gn xA13), exm_sub xe13 xd13 xy13 xx200, kit_sub xd13 xy13 xw13 xx200, ⟨xg5, xh5, xe5, xd5, xo5, xhn, xht, xm5⟩⟩)
      (xs_cons (⟨X6, .ref X13, .ref X13, rfl, rel_ref _, (xmOf_at rfl xA6).1, .inl (PySem.W.mg_of X Gn xA13), exm_sub xe13 xd13 xy13 xx201, kit_sub xd13 xy13 xw13 xx201, ⟨xg6, xh6, xe6, xd6, xo6, xhn, xht, xm6⟩⟩)
      (xs_cons (⟨X7, .ref X13, .ref X13, rfl, rel_ref _, (xmOf_at rfl xA7).1, .inl (PySem.W.mg_of X Gn xA13), exm_sub xe13 xd13 xy13 xx202, kit_sub xd13 xy13 xw13 xx202, ⟨xg7, xh7, xe7, xd7, xo7, xhn, xht, xm7⟩⟩)
      (xs_cons (⟨X8, .ref X13, .ref X13, rfl, rel_ref _, (xmOf_at rfl xA8).1, .inl (PySem.W.mg_of X Gn xA13), exm_sub xe13 xd13 xy13 xx203, kit_sub xd13 xy13 xw13 xx203, ⟨xg8, xh8, xe8, xd8, xo8, xhn, xht, xm8⟩⟩)
      (xs_cons (⟨X9, .ref X13, .ref X13, rfl, rel_ref _, (xmOf_at rfl xA9).1, .inl (PySem.W.mg_of X Gn xA13), exm_sub xe13 xd13 xy13 xx204, kit_sub xd13 xy13 xw13 xx204, ⟨xg9, xh9, xe9, xd9, xo9, xhn, xht, xm9⟩⟩)
      (xs_cons (⟨X10, .ref X13, .ref X13, rfl, rel_ref _, (xmOf_at rfl xA10).1, .inl (PySem.W.mg_of X Gn xA13), exm_sub xe13 xd13 xy13 xx205, kit_sub xd13 xy13 xw13 xx205, ⟨xg10, xh10, xe10, xd10, xo10, xhn, xht, xm10⟩⟩)
      (xs_cons (⟨X11, .ref X13, .ref X13, rfl, rel_ref _, (xmOf_at rfl xA11).1, .inl (PySem.W.mg_of X Gn xA13), exm_sub xe13 xd13 xy13 xx206, kit_sub xd13 xy13 xw13 xx206, ⟨xg11, xh11, xe11, xd11, xo11, xhn, xht, xm11⟩⟩)
      (xs_cons (⟨X12, .ref X13, .ref X13, rfl, rel_ref _, (xmOf_at rfl xA12).1, .inl (PySem.W.mg_of X Gn xA13), exm_sub xe13 xd13 xy13 xx207, kit_sub xd13 xy13 xw13 xx207, ⟨xg12, xh12, xe12, xd12, xo12, xhn, xht, xm12⟩⟩)
      (xs_cons (⟨X13, .ref X13, .ref X13, rfl, rel_ref _, (xmOf_at rfl xA13).1, .inl (PySem.W.mg_of X Gn xA13), exm_sub xe13 xd13 xy13 xx208, kit_sub xd13 xy13 xw13 xx208, ⟨xg13, xh13, xe13, xd13, xo13, xhn, xht, xm13⟩⟩)
      (xs_cons (⟨X14, .ref X13, .ref X13, rfl, rel_ref _, (xmOf_at rfl xA14).1, .inl (PySem.W.mg_of X Gn xA13), exm_sub xe13 xd13 xy13 xx209, kit_sub xd13 xy13 xw13 xx209, ⟨xg14, xh14, xe14, xd14, xo14, xhn, xht, xm14⟩⟩)
      (xs_nil)))))))))))))))
    have xs_14_ : ∀ q ∈ xs_14, XsP K mg G q := xs_cons (⟨X0, .ref X14, .ref X14, rfl, rel_ref _, (xmOf_at rfl xA0).1, .inl (PySem.W.mg_of X Gn xA14), exm_sub xe14 xd14 xy14 xx210, kit_sub xd14 xy14 xw14 xx210, ⟨xg0, xh0, xe0, xd0, xo0, xhn, xht, xm0⟩⟩)
      (xs_cons (⟨X1, .ref X14, .ref X14, rfl, rel_ref _, (xmOf_at rfl xA1).1, .inl (PySem.W.mg_of X Gn xA14), exm_sub xe14 xd14 xy14 xx211, kit_sub xd14 xy14 xw14 xx211, ⟨xg1, xh1, xe1, xd1, xo1, xhn, xht, xm1⟩⟩)
      (xs_cons (⟨X2, .ref X14, .ref X14, rfl, rel_ref _, (xmOf_at rfl xA2).1, .inl (PySem.W.mg_of X Gn xA14), exm_sub xe14 xd14 xy14 xx212, kit_sub xd14 xy14 xw14 xx212, ⟨xg2, xh2, xe2, xd2, xo2, xhn, xht, xm2⟩⟩)
      (xs_cons (⟨X3, .ref X14, .ref X14, rfl, rel_ref _, (xmOf_at rfl xA3).1, .inl (PySem.W.mg_of X Gn xA14), exm_sub xe14 xd14 xy14 xx213, kit_sub xd14 xy14 xw14 xx213, ⟨xg3, xh3, xe3, xd3, xo3, xhn, xht, xm3⟩⟩)
      (xs_cons (⟨X4, .ref X14, .ref X14, rfl, rel_ref _, (xmOf_at rfl xA4).1, .inl (PySem.W.mg_of X Gn xA14), exm_sub xe14 xd14 xy14 xx214, kit_sub xd14 xy14 xw14 xx214, ⟨xg4, xh4, xe4, xd4, xo4, xhn, xht, xm4⟩⟩)
      (xs_cons (⟨X5, .ref X14, .ref X14, rfl, rel_ref _, (xmOf_at rfl xA5).1, .inl (PySem.W.mg_of X Gn xA14), exm_sub xe14 xd14 xy14 xx215, kit_sub xd14 xy14 xw14 xx215, ⟨xg5, xh5, xe5, xd5, xo5, xhn, xht, xm5⟩⟩)
      (xs_cons (⟨X6, .ref X14, .ref X14, rfl, rel_ref _, (xmOf_at rfl xA6).1, .inl (PySem.W.mg_of X Gn xA14), exm_sub xe14 xd14 xy14 xx216, kit_sub xd14 xy14 xw14 xx216, ⟨xg6, xh6, xe6, xd6, xo6, xhn, xht, xm6⟩⟩)
      (xs_cons (⟨X7, .ref X14, .ref X14, rfl, rel_ref _, (xmOf_at rfl xA7).1, .inl (PySem.W.mg_of X Gn xA14), exm_sub xe14 xd14 xy14 xx217, kit_sub xd14 xy14 xw14 xx217, ⟨xg7, xh7, xe7, xd7, xo7, xhn, xht, xm7⟩⟩)
      (xs_cons (⟨X8, .ref X14, .ref X14, rfl, rel_ref _, (xmOf_at rfl xA8).1, .inl (PySem.W.mg_of X Gn xA14), exm_sub xe14 xd14 xy14 xx218, kit_sub xd14 xy14 xw14 xx218, ⟨xg8, xh8, xe8, xd8, xo8, xhn, xht, xm8⟩⟩)
      (xs_cons (⟨X9, .ref X14, .ref X14, rfl, rel_ref _, (xmOf_at rfl xA9).1, .inl (PySem.W.mg_of X Gn xA14), exm_sub xe14 xd14 xy14 xx219, kit_sub xd14 xy14 xw14 xx219, ⟨xg9, xh9, xe9, xd9, xo9, xhn, xht, xm9⟩⟩)
      (xs_cons (⟨X10, .ref X14, .ref X14, rfl, rel_ref _, (xmOf_at rfl xA10).1, .inl (PySem.W.mg_of X Gn xA14), exm_sub xe14 xd14 xy14 xx220, kit_sub xd14 xy14 xw14 xx220, ⟨xg10, xh10, xe10, xd10, xo10, xhn, xht, xm10⟩⟩)
      (xs_cons (⟨X11, .ref X14, .ref X14, rfl, rel_ref _, (xmOf_at rfl xA11).1, .inl (PySem.W.mg_of X Gn xA14), exm_sub xe14 xd14 xy14 xx221, kit_sub xd14 xy14 xw14 xx221, ⟨xg11, xh11, xe11, xd11, xo11, xhn, xht, xm11⟩⟩)
      (xs_cons (⟨X12, .ref X14, .ref X14, rfl, rel_ref _, (xmOf_at rfl xA12).1, .inl (PySem.W.mg_of X Gn xA14), exm_sub xe14 xd14 xy14 xx222, kit_sub xd14 xy14 xw14 xx222, ⟨xg12, xh12, xe12, xd12, xo12, xhn, xht, xm12⟩⟩)
      (xs_cons (⟨X13, .ref X14, .ref X14, rfl, rel_ref _, (xmOf_at rfl xA13).1, .inl (PySem.W.mg_of X Gn xA14), exm_sub xe14 xd14 xy14 xx223, kit_sub xd14 xy14 xw14 xx223, ⟨xg13, xh13, xe13, xd13, xo13, xhn, xht, xm13⟩⟩)
      (xs_cons (⟨X14, .ref X14, .ref X14, rfl, rel_ref _, (xmOf_at rfl xA14).1, .inl (PySem.W.mg_of X Gn xA14), exm_sub xe14 xd14 xy14 xx224, kit_sub xd14 xy14 xw14 xx224, ⟨xg14, xh14, xe14, xd14, xo14, xhn, xht, xm14⟩⟩)
      (xs_nil)))))))))))))))
    have xs_15_ : ∀ q ∈ xs_15, XsP K mg G q := xs_cons (⟨X0, .ty "ValueError", .type "ValueError", rfl, rel_ty _, (xmOf_at rfl xA0).1, .inr ⟨PySem.W.mg_none_of X Gn yvn, by decide +kernel, by decide +kernel⟩, exm_ve yve xx225, kit_ve xx225, ⟨xg0, xh0, xe0, xd0, xo0, xhn, xht, xm0⟩⟩)
      (xs_cons (⟨X1, .ty "ValueError", .type "ValueError", rfl, rel_ty _, (xmOf_at rfl xA1).1, .inr ⟨PySem.W.mg_none_of X Gn yvn, by decide +kernel, by decide +kernel⟩, exm_ve yve xx226, kit_ve xx226, ⟨xg1, xh1, xe1, xd1, xo1, xhn, xht, xm1⟩⟩)
      (xs_cons (⟨X2, .ty "ValueError", .type "ValueError", rfl, rel_ty _, (xmOf_at rfl xA2).1, .inr ⟨PySem.W.mg_none_of X Gn yvn, by decide +kernel, by decide +kernel⟩, exm_ve yve xx227, kit_ve xx227, ⟨xg2, xh2, xe2, xd2, xo2, xhn, xht, xm2⟩⟩)
      (xs_cons (⟨X3, .ty "ValueError", .type "ValueError", rfl, rel_ty _, (xmOf_at rfl xA3).1, .inr ⟨PySem.W.mg_none_of X Gn yvn, by decide +kernel, by decide +kernel⟩, exm_ve yve xx228, kit_ve xx228, ⟨xg3, xh3, xe3, xd3, xo3, xhn, xht, xm3⟩⟩)
      (xs_cons (⟨X4, .ty "ValueError", .type "ValueError", rfl, rel_ty _, (xmOf_at rfl xA4).1, .inr ⟨PySem.W.mg_none_of X Gn yvn, by decide +kernel, by decide +kernel⟩, exm_ve yve xx229, kit_ve xx229, ⟨xg4, xh4, xe4, xd4, xo4, xhn, xht, xm4⟩⟩)
      (xs_cons (⟨X5, .ty "ValueError", .type "ValueError", rfl, rel_ty _, (xmOf_at rfl xA5).1, .inr ⟨PySem.W.mg_none_of X Gn yvn, by decide +kernel, by decide +kernel⟩, exm_ve yve xx230, kit_ve xx230, ⟨xg5, xh5, xe5, xd5, xo5, xhn, xht, xm5⟩⟩)
      (xs_cons (⟨X6, .ty "ValueError", .type "ValueError", rfl, rel_ty _, (xmOf_at rfl xA6).1, .inr ⟨PySem.W.mg_none_of X Gn yvn, by decide +kernel, by decide +kernel⟩, exm_ve yve xx231, kit_ve xx231, ⟨xg6, xh6, xe6, xd6, xo6, xhn, xht, xm6⟩⟩)
      (xs_cons (⟨X7, .ty "ValueError", .type "ValueError", rfl, rel_ty _, (xmOf_at rfl xA7).1, .inr ⟨PySem.W.mg_none_of X Gn yvn, by decide +kernel, by decide +kernel⟩, exm_ve yve xx232, kit_ve xx232, ⟨xg7, xh7, xe7, xd7, xo7, xhn, xht, xm7⟩⟩)
      (xs_cons (⟨X8, .ty "ValueError", .type "ValueError", rfl, rel_ty _, (xmOf_at rfl xA8).1, .inr ⟨PySem.W.mg_none_of X Gn yvn, by decide +kernel, by decide +kernel⟩, exm_ve yve xx233, kit_ve xx233, ⟨xg8, xh8, xe8, xd8, xo8, xhn, xht, xm8⟩⟩)
      (xs_cons (⟨X9, .ty "ValueError", .type "ValueError", rfl, rel_ty _, (xmOf_at rfl xA9).1, .inr ⟨PySem.W.mg_none_of X Gn yvn, by decide +kernel, by decide +kernel⟩, exm_ve yve xx234, kit_ve xx234, ⟨xg9, xh9, xe9, xd9, xo9, xhn, xht, xm9⟩⟩)
      (xs_cons (⟨X10, .ty "ValueError", .type "ValueError", rfl, rel_ty _, (xmOf_at rfl xA10).1, .inr ⟨PySem.W.mg_none_of X Gn yvn, by decide +kernel, by decide +kernel⟩, exm_ve yve xx235, kit_ve xx235, ⟨xg10, xh10, xe10, xd10, xo10, xhn, xht, xm10⟩⟩)
      (xs_cons (⟨X11, .ty "ValueError", .type "ValueError", rfl, rel_ty _, (xmOf_at rfl xA11).1, .inr ⟨PySem.W.mg_none_of X Gn yvn, by decide +kernel, by decide +kernel⟩, exm_ve yve xx236, kit_ve xx236, ⟨xg11, xh11, xe11, xd11, xo11, xhn, xht, xm11⟩⟩)
      (xs_cons (⟨X12, .ty "ValueError", .type "ValueError", rfl, rel_ty _, (xmOf_at rfl xA12).1, .inr ⟨PySem.W.mg_none_of X Gn yvn, by decide +kernel, by decide +kernel⟩, exm_ve yve xx237, kit_ve xx237, ⟨xg12, xh12, xe12, xd12, xo12, xhn, xht, xm12⟩⟩)
      (xs_cons (⟨X13, .ty "ValueError", .type "ValueError", rfl, rel_ty _, (xmOf_at rfl xA13).1, .inr ⟨PySem.W.mg_none_of X Gn yvn, by decide +kernel, by decide +kernel⟩, exm_ve yve xx238, kit_ve xx238, ⟨xg13, xh13, xe13, xd13, xo13, xhn, xht, xm13⟩⟩)
      (xs_cons (⟨X14, .ty "ValueError", .type "ValueError", rfl, rel_ty _, (xmOf_at rfl xA14).1, .inr ⟨PySem.W.mg_none_of X Gn yvn, by decide +kernel, by decide +kernel⟩, exm_ve yve xx239, kit_ve xx239, ⟨xg14, xh14, xe14, xd14, xo14, xhn, xht, xm14⟩⟩)
      (xs_nil)))))))))))))))
    have xs_16_ : ∀ q ∈ xs_16, XsP K mg G q := xs_cons (⟨X0, .ref Y0, .ref Y0, rfl, rel_ref _, (xmOf_at rfl xA0).1, .inl (PySem.W.mg_of X Gn yA0), exm_sub ye0 yd0 yy0 xx240, kit_sub yd0 yy0 yw0 xx240, ⟨xg0, xh0, xe0, xd0, xo0, xhn, xht, xm0⟩⟩)
      (xs_cons (⟨X1, .ref Y0, .ref Y0, rfl, rel_ref _, (xmOf_at rfl xA1).1, .inl (PySem.W.mg_of X Gn yA0), exm_sub ye0 yd0 yy0 xx241, kit_sub yd0 yy0 yw0 xx241, ⟨xg1, xh1, xe1, xd1, xo1, xhn, xht, xm1⟩⟩)
      (xs_cons (⟨X2, .ref Y0, .ref Y0, rfl, rel_ref _, (xmOf_at rfl xA2).1, .inl (PySem.W.mg_of X Gn yA0), exm_sub ye0 yd0 yy0 xx242, kit_sub yd0 yy0 yw0 xx242, ⟨xg2, xh2, xe2, xd2, xo2, xhn, xht, xm2⟩⟩)
      (xs_cons (⟨X3, .ref Y0, .ref Y0, rfl, rel_ref _, (xmOf_at rfl xA3).1, .inl (PySem.W.mg_of X Gn yA0), exm_sub ye0 yd0 yy0 xx243, kit_sub yd0 yy0 yw0 xx243, ⟨xg3, xh3, xe3, xd3, xo3, xhn, xht, xm3⟩⟩)
      (xs_cons (⟨X4, .ref Y0, .ref Y0, rfl, rel_ref _, (xmOf_at rfl xA4).1, .inl (PySem.W.mg_of X Gn yA0), exm_sub ye0 yd0 yy0 xx244, kit_sub yd0 yy0 yw0 xx244, ⟨xg4, xh4, xe4, xd4, xo4, xhn, xht, xm4⟩⟩)
      (xs_cons (⟨X5, .ref Y0, .ref Y0, rfl, rel_ref _, (xmOf_at rfl xA5).1, .inl (PySem.W.mg_of X Gn yA0), exm_sub ye0 yd0 yy0 xx245, kit_sub yd0 yy0 yw0 xx245, ⟨xg5, xh5, xe5, xd5, xo5, xhn, xht, xm5⟩⟩)
      (xs_cons (⟨X6, .ref Y0, .ref Y0, rfl, rel_ref _, (xmOf_at rfl xA6).1, .inl (PySem.W.mg_of X Gn yA0), exm_sub ye0 yd0 yy0 xx246, kit_sub yd0 yy0 yw0 xx246, ⟨xg6, xh6, xe6, xd6, xo6, xhn, xht, xm6⟩⟩)
      (xs_cons (⟨X7, .ref Y0, .ref Y0, rfl, rel_ref _, (xmOf_at rfl xA7).1, .inl (PySem.W.mg_of X Gn yA0), exm_sub ye0 yd0 yy0 xx247, kit_sub yd0 yy0 yw0 xx247, ⟨xg7, xh7, xe7, xd7, xo7, xhn, xht, xm7⟩⟩)
      (xs_cons (⟨X8, .ref Y0, .ref Y0, rfl, rel_ref _, (xmOf_at rfl xA8).1, .inl (PySem.W.mg_of X Gn yA0), exm_sub ye0 yd0 yy0 xx248, kit_sub yd0 yy0 yw0 xx248, ⟨xg8, xh8, xe8, xd8, xo8, xhn, xht, xm8⟩⟩)
      (xs_cons (⟨X9, .ref Y0, .ref Y0, rfl, rel_ref _, (xmOf_at rfl xA9).1, .inl (PySem.W.mg_of X Gn yA0), exm_sub ye0 yd0 yy0 xx249, kit_sub yd0 yy0 yw0 xx249, ⟨xg9, xh9, xe9, xd9, xo9, xhn, xht, xm9⟩⟩)
      (xs_cons (⟨X10, .ref Y0, .ref Y0, rfl, rel_ref _, (xmOf_at rfl xA10).1, .inl (PySem.W.mg_of X Gn yA0), exm_sub ye0 yd0 yy0 xx250, kit_sub yd0 yy0 yw0 xx250, ⟨xg10, xh10, xe10, xd10, xo10, xhn, xht, xm10⟩⟩)
      (xs_cons (⟨X11, .ref Y0, .ref Y0, rfl, rel_ref _, (xmOf_at rfl xA11).1, .inl (PySem.W.mg_of X Gn yA0), exm_sub ye0 yd0 yy0 xx251, kit_sub yd0 yy0 yw0 xx251, ⟨xg11, xh11, xe11, xd11, xo11, xhn, xht, xm11⟩⟩)
      (xs_cons (⟨X12, .ref Y0, .ref Y0, rfl, rel_ref _, (xmOf_at rfl xA12).1, .inl (PySem.W.mg_of X Gn yA0), exm_sub ye0 yd0 yy0 xx252, kit_sub yd0 yy0 yw0 xx252, ⟨xg12, xh12, xe12, xd12, xo12, xhn, xht, xm12⟩⟩)
      (xs_cons (⟨X13, .ref Y0, .ref Y0, rfl, rel_ref _, (xmOf_at rfl xA13).1, .inl (PySem.W.mg_of X Gn yA0), exm_sub ye0 yd0 yy0 xx253, kit_sub yd0 yy0 yw0 xx253, ⟨xg13, xh13, xe13, xd13, xo13, xhn, xht, xm13⟩⟩)
      (xs_cons (⟨X14, .ref Y0, .ref Y0, rfl, rel_ref _, (xmOf_at rfl xA14).1, .inl (PySem.W.mg_of X Gn yA0), exm_sub ye0 yd0 yy0 xx254, kit_sub yd0 yy0 yw0 xx254, ⟨xg14, xh14, xe14, xd14, xo14, xhn, xht, xm14⟩⟩)
      (xs_nil)))))))))))))))
    exact (xs_app xs_0_ (xs_app xs_1_ (xs_app xs_2_ (xs_app xs_3_ (xs_app xs_4_ (xs_app xs_5_ (xs_app xs_6_ (xs_app xs_7_ (xs_app xs_8_ (xs_app xs_9_ (xs_app xs_10_ (xs_app xs_11_ (xs_app xs_12_ (xs_app xs_13_ (xs_app xs_14_ (xs_app xs_15_ (xs_app xs_16_ xs_nil))))))))))))))))) p hp
end K19

open PySem PySem.W PyProof.Rows in
set_option maxRecDepth 100000 in
set_option maxHeartbeats 0 in
theorem PySem.Challenge.cw_weirmark_k19_refusals_apart_holds : PySem.Challenge.rw_weirmark_k19_refusals_apart.Holds := by
  w_on; o_law; k_head; (case hw => w_witness2)
  k_fill
  refine Mn.walk (l := PySem.Challenge.rw_weirmark_k19_refusals_apart) (P := K19.P) (G := K19.G) (f := 10) (k := K19.dep) (x := "_law_script") rfl rfl ⟨rfl, by decide, by decide⟩ (fun w h Y => PySem.W.kIn_of Y) K19.lawrun ?F
  case F =>
    intro w mg fa h KX Gn hmg
    refine' K19.all_mk KX Gn hmg ?a0 ?l0 ?c0 ?k0 ?a1 ?l1 ?c1 ?k1 ?a2 ?l2 ?c2 ?k2 ?a3 ?l3 ?c3 ?k3 ?a4 ?l4 ?c4 ?k4 ?a5 ?l5 ?c5 ?k5 ?a6 ?l6 ?c6 ?k6 ?a7 ?l7 ?c7 ?k7 ?a8 ?l8 ?c8 ?k8 ?a9 ?l9 ?c9 ?k9 ?a10 ?l10 ?c10 ?k10 ?xA0 ?xg0 ?xh0 ?xk0 ?xe0 ?xy0 ?xd0 ?xw0 ?xo0 ?xm0 ?xq0 ?xA1 ?xg1 ?xh1 ?xk1 ?xe1 ?xy1 ?xd1 ?xw1 ?xo1 ?xm1 ?xq1 ?xA2 ?xg2 ?xh2 ?xk2 ?xe2 ?xy2 ?xd2 ?xw2 ?xo2 ?xm2 ?xq2 ?xA3 ?xg3 ?xh3 ?xk3 ?xe3 ?xy3 ?xd3 ?xw3 ?xo3 ?xm3 ?xq3 ?xA4 ?xg4 ?xh4 ?xk4 ?xe4 ?xy4 ?xd4 ?xw4 ?xo4 ?xm4 ?xl4 ?xr4 ?xs4 ?xj4 ?xi4 ?xt4 ?xf4 ?xz4 ?xA5 ?xg5 ?xh5 ?xk5 ?xe5 ?xy5 ?xd5 ?xw5 ?xo5 ?xm5 ?xl5 ?xr5 ?xs5 ?xj5 ?xi5 ?xt5 ?xf5 ?xz5 ?xA6 ?xg6 ?xh6 ?xk6 ?xe6 ?xy6 ?xd6 ?xw6 ?xo6 ?xm6 ?xl6 ?xr6 ?xs6 ?xj6 ?xi6 ?xt6 ?xf6 ?xz6 ?xA7 ?xg7 ?xh7 ?xk7 ?xe7 ?xy7 ?xd7 ?xw7 ?xo7 ?xm7 ?xl7 ?xr7 ?xs7 ?xj7 ?xi7 ?xt7 ?xf7 ?xz7 ?xA8 ?xg8 ?xh8 ?xk8 ?xe8 ?xy8 ?xd8 ?xw8 ?xo8 ?xm8 ?xl8 ?xr8 ?xs8 ?xj8 ?xi8 ?xt8 ?xf8 ?xz8 ?xA9 ?xg9 ?xh9 ?xk9 ?xe9 ?xy9 ?xd9 ?xw9 ?xo9 ?xm9 ?xq9 ?xA10 ?xg10 ?xh10 ?xk10 ?xe10 ?xy10 ?xd10 ?xw10 ?xo10 ?xm10 ?xq10 ?xA11 ?xg11 ?xh11 ?xk11 ?xe11 ?xy11 ?xd11 ?xw11 ?xo11 ?xm11 ?xl11 ?xr11 ?xs11 ?xj11 ?xi11 ?xt11 ?xf11 ?xz11 ?xA12 ?xg12 ?xh12 ?xk12 ?xe12 ?xy12 ?xd12 ?xw12 ?xo12 ?xm12 ?xq12 ?xA13 ?xg13 ?xh13 ?xk13 ?xe13 ?xy13 ?xd13 ?xw13 ?xo13 ?xm13 ?xq13 ?xA14 ?xg14 ?xh14 ?xk14 ?xe14 ?xy14 ?xd14 ?xw14 ?xo14 ?xm14 ?xl14 ?xr14 ?xs14 ?xj14 ?xi14 ?xt14 ?xf14 ?xz14 ?xhn ?xht ?yA0 ?ye0 ?yd0 ?yy0 ?yw0 ?yve ?yvn ?xx0 ?xx1 ?xx2 ?xx3 ?xx4 ?xx5 ?xx6 ?xx7 ?xx8 ?xx9 ?xx10 ?xx11 ?xx12 ?xx13 ?xx14 ?xx15 ?xx16 ?xx17 ?xx18 ?xx19 ?xx20 ?xx21 ?xx22 ?xx23 ?xx24 ?xx25 ?xx26 ?xx27 ?xx28 ?xx29 ?xx30 ?xx31 ?xx32 ?xx33 ?xx34 ?xx35 ?xx36 ?xx37 ?xx38 ?xx39 ?xx40 ?xx41 ?xx42 ?xx43 ?xx44 ?xx45 ?xx46 ?xx47 ?xx48 ?xx49 ?xx50 ?xx51 ?xx52 ?xx53 ?xx54 ?xx55 ?xx56 ?xx57 ?xx58 ?xx59 ?xx60 ?xx61 ?xx62 ?xx63 ?xx64 ?xx65 ?xx66 ?xx67 ?xx68 ?xx69 ?xx70 ?xx71 ?xx72 ?xx73 ?xx74 ?xx75 ?xx76 ?xx77 ?xx78 ?xx79 ?xx80 ?xx81 ?xx82 ?xx83 ?xx84 ?xx85 ?xx86 ?xx87 ?xx88 ?xx89 ?xx90 ?xx91 ?xx92 ?xx93 ?xx94 ?xx95 ?xx96 ?xx97 ?xx98 ?xx99 ?xx100 ?xx101 ?xx102 ?xx103 ?xx104 ?xx105 ?xx106 ?xx107 ?xx108 ?xx109 ?xx110 ?xx111 ?xx112 ?xx113 ?xx114 ?xx115 ?xx116 ?xx117 ?xx118 ?xx119 ?xx120 ?xx121 ?xx122 ?xx123 ?xx124 ?xx125 ?xx126 ?xx127 ?xx128 ?xx129 ?xx130 ?xx131 ?xx132 ?xx133 ?xx134 ?xx135 ?xx136 ?xx137 ?xx138 ?xx139 ?xx140 ?xx141 ?xx142 ?xx143 ?xx144 ?xx145 ?xx146 ?xx147 ?xx148 ?xx149 ?xx150 ?xx151 ?xx152 ?xx153 ?xx154 ?xx155 ?xx156 ?xx157 ?xx158 ?xx159 ?xx160 ?xx161 ?xx162 ?xx163 ?xx164 ?xx165 ?xx166 ?xx167 ?xx168 ?xx169 ?xx170 ?xx171 ?xx172 ?xx173 ?xx174 ?xx175 ?xx176 ?xx177 ?xx178 ?xx179 ?xx180 ?xx181 ?xx182 ?xx183 ?xx184 ?xx185 ?xx186 ?xx187 ?xx188 ?xx189 ?xx190 ?xx191 ?xx192 ?xx193 ?xx194 ?xx195 ?xx196 ?xx197 ?xx198 ?xx199 ?xx200 ?xx201 ?xx202 ?xx203 ?xx204 ?xx205 ?xx206 ?xx207 ?xx208 ?xx209 ?xx210 ?xx211 ?xx212 ?xx213 ?xx214 ?xx215 ?xx216 ?xx217 ?xx218 ?xx219 ?xx220 ?xx221 ?xx222 ?xx223 ?xx224 ?xx225 ?xx226 ?xx227 ?xx228 ?xx229 ?xx230 ?xx231 ?xx232 ?xx233 ?xx234 ?xx235 ?xx236 ?xx237 ?xx238 ?xx239 ?xx240 ?xx241 ?xx242 ?xx243 ?xx244 ?xx245 ?xx246 ?xx247 ?xx248 ?xx249 ?xx250 ?xx251 ?xx252 ?xx253 ?xx254 ?z0 ?z1 ?z2 ?z3 ?z4 ?z5 ?z6
    (case a0 => k_is)
    (case l0 => k_is)
    (case c0 => k_is)
    (case k0 => k_is)
    (case a1 => k_is)
    (case l1 => k_is)
    (case c1 => k_is)
    (case k1 => k_is)
    (case a2 => k_is)
    (case l2 => k_is)
    (case c2 => k_is)
    (case k2 => k_is)
    (case a3 => k_is)
    (case l3 => k_is)
    (case c3 => k_is)
    (case k3 => k_is)
    (case a4 => k_is)
    (case l4 => k_is)
    (case c4 => k_is)
    (case k4 => k_is)
    (case a5 => k_is)
    (case l5 => k_is)
    (case c5 => k_is)
    (case k5 => k_is)
    (case a6 => k_is)
    (case l6 => k_is)
    (case c6 => k_is)
    (case k6 => k_is)
    (case a7 => k_is)
    (case l7 => k_is)
    (case c7 => k_is)
    (case k7 => k_is)
    (case a8 => k_is)
    (case l8 => k_is)
    (case c8 => k_is)
    (case k8 => k_is)
    (case a9 => k_is)
    (case l9 => k_is)
    (case c9 => k_is)
    (case k9 => k_is)
    (case a10 => k_is)
    (case l10 => k_is)
    (case c10 => k_is)
    (case k10 => k_is)
    (case xA0 => k_is)
    (case xg0 => k_is)
    (case xh0 => k_is)
    (case xk0 => k_is)
    (case xe0 => k_is)
    (case xy0 => k_is)
    (case xd0 => k_is)
    (case xw0 => k_is)
    (case xo0 => k_is)
    (case xm0 => k_is)
    (case xq0 => k_exc)
    (case xA1 => k_is)
    (case xg1 => k_is)
    (case xh1 => k_is)
    (case xk1 => k_is)
    (case xe1 => k_is)
    (case xy1 => k_is)
    (case xd1 => k_is)
    (case xw1 => k_is)
    (case xo1 => k_is)
    (case xm1 => k_is)
    (case xq1 => k_exc)
    (case xA2 => k_is)
    (case xg2 => k_is)
    (case xh2 => k_is)
    (case xk2 => k_is)
    (case xe2 => k_is)
    (case xy2 => k_is)
    (case xd2 => k_is)
    (case xw2 => k_is)
    (case xo2 => k_is)
    (case xm2 => k_is)
    (case xq2 => k_exc)
    (case xA3 => k_is)
    (case xg3 => k_is)
    (case xh3 => k_is)
    (case xk3 => k_is)
    (case xe3 => k_is)
    (case xy3 => k_is)
    (case xd3 => k_is)
    (case xw3 => k_is)
    (case xo3 => k_is)
    (case xm3 => k_is)
    (case xq3 => k_exc)
    (case xA4 => k_is)
    (case xg4 => k_is)
    (case xh4 => k_is)
    (case xk4 => k_is)
    (case xe4 => k_is)
    (case xy4 => k_is)
    (case xd4 => k_is)
    (case xw4 => k_is)
    (case xo4 => k_is)
    (case xm4 => k_is)
    (case xl4 => k_is)
    (case xr4 => first | rfl | decide)
    (case xs4 => k_is)
    (case xj4 => k_is)
    (case xi4 => k_is)
    (case xt4 => k_is)
    (case xf4 => k_is)
    (case xz4 => k_is)
    (case xA5 => k_is)
    (case xg5 => k_is)
    (case xh5 => k_is)
    (case xk5 => k_is)
    (case xe5 => k_is)
    (case xy5 => k_is)
    (case xd5 => k_is)
    (case xw5 => k_is)
    (case xo5 => k_is)
    (case xm5 => k_is)
    (case xl5 => k_is)
    (case xr5 => first | rfl | decide)
    (case xs5 => k_is)
    (case xj5 => k_is)
    (case xi5 => k_is)
    (case xt5 => k_is)
    (case xf5 => k_is)
    (case xz5 => k_is)
    (case xA6 => k_is)
    (case xg6 => k_is)
    (case xh6 => k_is)
    (case xk6 => k_is)
    (case xe6 => k_is)
    (case xy6 => k_is)
    (case xd6 => k_is)
    (case xw6 => k_is)
    (case xo6 => k_is)
    (case xm6 => k_is)
    (case xl6 => k_is)
    (case xr6 => first | rfl | decide)
    (case xs6 => k_is)
    (case xj6 => k_is)
    (case xi6 => k_is)
    (case xt6 => k_is)
    (case xf6 => k_is)
    (case xz6 => k_is)
    (case xA7 => k_is)
    (case xg7 => k_is)
    (case xh7 => k_is)
    (case xk7 => k_is)
    (case xe7 => k_is)
    (case xy7 => k_is)
    (case xd7 => k_is)
    (case xw7 => k_is)
    (case xo7 => k_is)
    (case xm7 => k_is)
    (case xl7 => k_is)
    (case xr7 => first | rfl | decide)
    (case xs7 => k_is)
    (case xj7 => k_is)
    (case xi7 => k_is)
    (case xt7 => k_is)
    (case xf7 => k_is)
    (case xz7 => k_is)
    (case xA8 => k_is)
    (case xg8 => k_is)
    (case xh8 => k_is)
    (case xk8 => k_is)
    (case xe8 => k_is)
    (case xy8 => k_is)
    (case xd8 => k_is)
    (case xw8 => k_is)
    (case xo8 => k_is)
    (case xm8 => k_is)
    (case xl8 => k_is)
    (case xr8 => first | rfl | decide)
    (case xs8 => k_is)
    (case xj8 => k_is)
    (case xi8 => k_is)
    (case xt8 => k_is)
    (case xf8 => k_is)
    (case xz8 => k_is)
    (case xA9 => k_is)
    (case xg9 => k_is)
    (case xh9 => k_is)
    (case xk9 => k_is)
    (case xe9 => k_is)
    (case xy9 => k_is)
    (case xd9 => k_is)
    (case xw9 => k_is)
    (case xo9 => k_is)
    (case xm9 => k_is)
    (case xq9 => k_exc)
    (case xA10 => k_is)
    (case xg10 => k_is)
    (case xh10 => k_is)
    (case xk10 => k_is)
    (case xe10 => k_is)
    (case xy10 => k_is)
    (case xd10 => k_is)
    (case xw10 => k_is)
    (case xo10 => k_is)
    (case xm10 => k_is)
    (case xq10 => k_exc)
    (case xA11 => k_is)
    (case xg11 => k_is)
    (case xh11 => k_is)
    (case xk11 => k_is)
    (case xe11 => k_is)
    (case xy11 => k_is)
    (case xd11 => k_is)
    (case xw11 => k_is)
    (case xo11 => k_is)
    (case xm11 => k_is)
    (case xl11 => k_is)
    (case xr11 => first | rfl | decide)
    (case xs11 => k_is)
    (case xj11 => k_is)
    (case xi11 => k_is)
    (case xt11 => k_is)
    (case xf11 => k_is)
    (case xz11 => k_is)
    (case xA12 => k_is)
    (case xg12 => k_is)
    (case xh12 => k_is)
    (case xk12 => k_is)
    (case xe12 => k_is)
    (case xy12 => k_is)
    (case xd12 => k_is)
    (case xw12 => k_is)
    (case xo12 => k_is)
    (case xm12 => k_is)
    (case xq12 => k_exc)
    (case xA13 => k_is)
    (case xg13 => k_is)
    (case xh13 => k_is)
    (case xk13 => k_is)
    (case xe13 => k_is)
    (case xy13 => k_is)
    (case xd13 => k_is)
    (case xw13 => k_is)
    (case xo13 => k_is)
    (case xm13 => k_is)
    (case xq13 => k_exc)
    (case xA14 => k_is)
    (case xg14 => k_is)
    (case xh14 => k_is)
    (case xk14 => k_is)
    (case xe14 => k_is)
    (case xy14 => k_is)
    (case xd14 => k_is)
    (case xw14 => k_is)
    (case xo14 => k_is)
    (case xm14 => k_is)
    (case xl14 => k_is)
    (case xr14 => first | rfl | decide)
    (case xs14 => k_is)
    (case xj14 => k_is)
    (case xi14 => k_is)
    (case xt14 => k_is)
    (case xf14 => k_is)
    (case xz14 => k_is)
    (case xhn => k_is)
    (case xht => k_is)
    (case yA0 => k_is)
    (case ye0 => k_is)
    (case yd0 => k_is)
    (case yy0 => k_is)
    (case yw0 => k_is)
    (case yve => k_is)
    (case yvn => k_is)
    (case xx0 => k_is)
    (case xx1 => k_is)
    (case xx2 => k_is)
    (case xx3 => k_is)
    (case xx4 => k_is)
    (case xx5 => k_is)
    (case xx6 => k_is)
    (case xx7 => k_is)
    (case xx8 => k_is)
    (case xx9 => k_is)
    (case xx10 => k_is)
    (case xx11 => k_is)
    (case xx12 => k_is)
    (case xx13 => k_is)
    (case xx14 => k_is)
    (case xx15 => k_is)
    (case xx16 => k_is)
    (case xx17 => k_is)
    (case xx18 => k_is)
    (case xx19 => k_is)
    (case xx20 => k_is)
    (case xx21 => k_is)
    (case xx22 => k_is)
    (case xx23 => k_is)
    (case xx24 => k_is)
    (case xx25 => k_is)
    (case xx26 => k_is)
    (case xx27 => k_is)
    (case xx28 => k_is)
    (case xx29 => k_is)
    (case xx30 => k_is)
    (case xx31 => k_is)
    (case xx32 => k_is)
    (case xx33 => k_is)
    (case xx34 => k_is)
    (case xx35 => k_is)
    (case xx36 => k_is)
    (case xx37 => k_is)
    (case xx38 => k_is)
    (case xx39 => k_is)
    (case xx40 => k_is)
    (case xx41 => k_is)
    (case xx42 => k_is)
    (case xx43 => k_is)
    (case xx44 => k_is)
    (case xx45 => k_is)
    (case xx46 => k_is)
    (case xx47 => k_is)
    (case xx48 => k_is)
    (case xx49 => k_is)
    (case xx50 => k_is)
    (case xx51 => k_is)
    (case xx52 => k_is)
    (case xx53 => k_is)
    (case xx54 => k_is)
    (case xx55 => k_is)
    (case xx56 => k_is)
    (case xx57 => k_is)
    (case xx58 => k_is)
    (case xx59 => k_is)
    (case xx60 => k_is)
    (case xx61 => k_is)
    (case xx62 => k_is)
    (case xx63 => k_is)
    (case xx64 => k_is)
    (case xx65 => k_is)
    (case xx66 => k_is)
    (case xx67 => k_is)
    (case xx68 => k_is)
    (case xx69 => k_is)
    (case xx70 => k_is)
    (case xx71 => k_is)
    (case xx72 => k_is)
    (case xx73 => k_is)
    (case xx74 => k_is)
    (case xx75 => k_is)
    (case xx76 => k_is)
    (case xx77 => k_is)
    (case xx78 => k_is)
    (case xx79 => k_is)
    (case xx80 => k_is)
    (case xx81 => k_is)
    (case xx82 => k_is)
    (case xx83 => k_is)
    (case xx84 => k_is)
    (case xx85 => k_is)
    (case xx86 => k_is)
    (case xx87 => k_is)
    (case xx88 => k_is)
    (case xx89 => k_is)
    (case xx90 => k_is)
    (case xx91 => k_is)
    (case xx92 => k_is)
    (case xx93 => k_is)
    (case xx94 => k_is)
    (case xx95 => k_is)
    (case xx96 => k_is)
    (case xx97 => k_is)
    (case xx98 => k_is)
    (case xx99 => k_is)
    (case xx100 => k_is)
    (case xx101 => k_is)
    (case xx102 => k_is)
    (case xx103 => k_is)
    (case xx104 => k_is)
    (case xx105 => k_is)
    (case xx106 => k_is)
    (case xx107 => k_is)
    (case xx108 => k_is)
    (case xx109 => k_is)
    (case xx110 => k_is)
    (case xx111 => k_is)
    (case xx112 => k_is)
    (case xx113 => k_is)
    (case xx114 => k_is)
    (case xx115 => k_is)
    (case xx116 => k_is)
    (case xx117 => k_is)
    (case xx118 => k_is)
    (case xx119 => k_is)
    (case xx120 => k_is)
    (case xx121 => k_is)
    (case xx122 => k_is)
    (case xx123 => k_is)
    (case xx124 => k_is)
    (case xx125 => k_is)
    (case xx126 => k_is)
    (case xx127 => k_is)
    (case xx128 => k_is)
    (case xx129 => k_is)
    (case xx130 => k_is)
    (case xx131 => k_is)
    (case xx132 => k_is)
    (case xx133 => k_is)
    (case xx134 => k_is)
    (case xx135 => k_is)
    (case xx136 => k_is)
    (case xx137 => k_is)
    (case xx138 => k_is)
    (case xx139 => k_is)
    (case xx140 => k_is)
    (case xx141 => k_is)
    (case xx142 => k_is)
    (case xx143 => k_is)
    (case xx144 => k_is)
    (case xx145 => k_is)
    (case xx146 => k_is)
    (case xx147 => k_is)
    (case xx148 => k_is)
    (case xx149 => k_is)
    (case xx150 => k_is)
    (case xx151 => k_is)
    (case xx152 => k_is)
    (case xx153 => k_is)
    (case xx154 => k_is)
    (case xx155 => k_is)
    (case xx156 => k_is)
    (case xx157 => k_is)
    (case xx158 => k_is)
    (case xx159 => k_is)
    (case xx160 => k_is)
    (case xx161 => k_is)
    (case xx162 => k_is)
    (case xx163 => k_is)
    (case xx164 => k_is)
    (case xx165 => k_is)
    (case xx166 => k_is)
    (case xx167 => k_is)
    (case xx168 => k_is)
    (case xx169 => k_is)
    (case xx170 => k_is)
    (case xx171 => k_is)
    (case xx172 => k_is)
    (case xx173 => k_is)
    (case xx174 => k_is)
    (case xx175 => k_is)
    (case xx176 => k_is)
    (case xx177 => k_is)
    (case xx178 => k_is)
    (case xx179 => k_is)
    (case xx180 => k_is)
    (case xx181 => k_is)
    (case xx182 => k_is)
    (case xx183 => k_is)
    (case xx184 => k_is)
    (case xx185 => k_is)
    (case xx186 => k_is)
    (case xx187 => k_is)
    (case xx188 => k_is)
    (case xx189 => k_is)
    (case xx190 => k_is)
    (case xx191 => k_is)
    (case xx192 => k_is)
    (case xx193 => k_is)
    (case xx194 => k_is)
    (case xx195 => k_is)
    (case xx196 => k_is)
    (case xx197 => k_is)
    (case xx198 => k_is)
    (case xx199 => k_is)
    (case xx200 => k_is)
    (case xx201 => k_is)
    (case xx202 => k_is)
    (case xx203 => k_is)
    (case xx204 => k_is)
    (case xx205 => k_is)
    (case xx206 => k_is)
    (case xx207 => k_is)
    (case xx208 => k_is)
    (case xx209 => k_is)
    (case xx210 => k_is)
    (case xx211 => k_is)
    (case xx212 => k_is)
    (case xx213 => k_is)
    (case xx214 => k_is)
    (case xx215 => k_is)
    (case xx216 => k_is)
    (case xx217 => k_is)
    (case xx218 => k_is)
    (case xx219 => k_is)
    (case xx220 => k_is)
    (case xx221 => k_is)
    (case xx222 => k_is)
    (case xx223 => k_is)
    (case xx224 => k_is)
    (case xx225 => k_is)
    (case xx226 => k_is)
    (case xx227 => k_is)
    (case xx228 => k_is)
    (case xx229 => k_is)
    (case xx230 => k_is)
    (case xx231 => k_is)
    (case xx232 => k_is)
    (case xx233 => k_is)
    (case xx234 => k_is)
    (case xx235 => k_is)
    (case xx236 => k_is)
    (case xx237 => k_is)
    (case xx238 => k_is)
    (case xx239 => k_is)
    (case xx240 => k_is)
    (case xx241 => k_is)
    (case xx242 => k_is)
    (case xx243 => k_is)
    (case xx244 => k_is)
    (case xx245 => k_is)
    (case xx246 => k_is)
    (case xx247 => k_is)
    (case xx248 => k_is)
    (case xx249 => k_is)
    (case xx250 => k_is)
    (case xx251 => k_is)
    (case xx252 => k_is)
    (case xx253 => k_is)
    (case xx254 => k_is)
    (case z0 => k_is)
    (case z1 => k_is)
    (case z2 => k_is)
    (case z3 => k_is)
    (case z4 => k_is)
    (case z5 => k_is)
    (case z6 => k_is)
