import PyProof.Rows.All
import Wide.All
import OpenK.AllK
import Wide.FinOn
import HandS.ForMost
import HandS.SetFor
import HandS.Strs
import HandS.SortInts
import HandS.Defaults
import HandS.MakeKwOnly
import HandS.Evl
import HandS.Codes
import HandS.IsInst
import HandS.Style
import HandS.TupAny
import HandS.Conv
import PySem.Challenge.RW_foreworth_k41_whole_few_papers
/-! ## R1 -/
set_option Elab.async false
set_option linter.all false
set_option maxRecDepth 100000
set_option maxHeartbeats 4000000
/-! Rules that the layer lacks: set(list of ints), sorted(set) at any size, tuple.index of ints, o.m(k = v). -/
namespace Fr0
open PySem PySem.Spec PyProof.Rows L2

section
variable {P : Program} {w : World} {A : Around} {E : Value → Shared → Prop} {s : Shared}
set_option maxHeartbeats 8000000 in
theorem set_of_list {l : Addr} {items : Array Value} (ns : List Int) {Q : Value → Shared → Prop} (hh : A.handled = none) (hl : s.heap.IsList l items) (hit : IntsAre items.toList ns) (hb : ns.length + 1 < scanBound)
    (fin : ∀ (g : Heap) (tk c : Nat), SetR w g s.heap.objs.size (fun j => decide (j ∈ ns)) c → c ≤ ns.length → (∀ b o, s.heap.get? b = some o → g.get? b = some o) → Q (.ref s.heap.objs.size) { s with heap := g, toks := tk }) :
    wpAny (model P w) A (call (.type "set") [.ref l]) Q E s := by
  have nsz : items.size = ns.length := by
    have q := IntsAre.length hit
    rw [Array.length_toList] at q
    exact q
  obtain ⟨c, tl, hmro⟩ := F.called_set.mro
  have hmade := F.called_set.made
  have hsub := F.called_set.sub
  refine wpAny_call (codeAny_of_tree ?_)
  show wpAny _ _ (callAny (.type "set") _) _ _ _
  refine wpAny_pure ⟨Code.quiet_builtin _ (by decide +kernel), codeAny_builtin F.entry_type_call ?_⟩
  rw [Around.under_plain (weight_type_call_type "set" [.ref l] []) rfl]
  have k1 := F.called_set.notType
  have k2 := F.called_set.canCreate
  have k3 := F.typeCall_set_1 (.ref l)
  repeat (any_goals (first | assumption | wp_step))
  refine codeAny_mono (code_set_led1 (.ref l) (E := E) (Q₁ := fun obj s₁ => obj = .ref s.heap.objs.size ∧ s₁ = { s with heap := s.heap.push { cls := .type "set", dict := none, data := .set #[] 0 (.fresh 0 0 (!w.params.followText "set-order")) } }) ⟨rfl, rfl⟩) fun r s₁ hr => ?_
  cases r with
  | error e => exact hr
  | ok fl =>
    cases fl with
    | ret obj =>
      obtain ⟨rfl, rfl⟩ := hr
      have hS : (s.heap.push { cls := .type "set", dict := none, data := .set #[] 0 (.fresh 0 0 (!w.params.followText "set-order")) }).get? s.heap.objs.size = some { cls := .type "set", dict := none, data := .set #[] 0 (.fresh 0 0 (!w.params.followText "set-order")) } := Heap.get?_push_size _ rfl
      have hT : Shared.TypeIs { s with heap := s.heap.push { cls := .type "set", dict := none, data := .set #[] 0 (.fresh 0 0 (!w.params.followText "set-order")) } } (.ref s.heap.objs.size) "set" := ⟨_, hS, rfl⟩
      have hli := F.called_set.init.lookup
      have hbi := F.called_set.init.bind (.ref s.heap.objs.size)
      repeat (any_goals (first | assumption | wp_step))
      refine codeAny_mono (codeAny_call_builtin (R := wants (fun r s₂ => r = .none ∧ ∃ g tk c, s₂ = { s with heap := g, toks := tk } ∧ SetR w g s.heap.objs.size (fun j => decide (j ∈ ns)) c ∧ c ≤ ns.length ∧
          (∀ b o, s.heap.get? b = some o → g.get? b = some o)) E) F.called_set.init.plain F.entry_set_init (check_set_init_1 hT ?_)) fun r₂ s₂ hr₂ => ?_
      · obtain ⟨ol, hol, hcl, nl, hdl⟩ := hl
        obtain ⟨ocls, odict, odata, oslots⟩ := ol
        simp only at hcl hdl
        subst hcl; subst hdl
        have hol' : (s.heap.push { cls := .type "set", dict := none, data := .set #[] 0 (.fresh 0 0 (!w.params.followText "set-order")) }).get? l = some { cls := .type "list", dict := odict, data := .seq items nl, slots := oslots } := Heap.get?_push_of_some _ hol
        have u1 := F.sub_list_set
        have u2 := F.sub_list_frozenset
        have u3 : (Value.type "list" == Value.type "dict") = false := by decide
        have hl1 : (s.heap.push { cls := .type "set", dict := none, data := .set #[] 0 (.fresh 0 0 (!w.params.followText "set-order")) }).IsList l items := ⟨_, hol', rfl, nl, rfl⟩
        unfold Builtin.«set.__init__» noKeywords Builtin.Frozenset.updateFrom
        generalize hPI : pyIter = PI
        wp_walk
        subst hPI
        refine wpAny_pyIter_list hl1 ?_
        refine wpAny_bind (wpAny_runValue ?_)
        have hlS : l < s.heap.objs.size := Heap.lt_size hol
        have hh3 : A.in1.in1.in1.handled = none := by simp [hh]
        have nI : l ≠ (s.heap.push { cls := .type "set", dict := none, data := .set #[] 0 (.fresh 0 0 (!w.params.followText "set-order")) }).objs.size := by
          rw [Heap.size_push]; exact Nat.ne_of_lt (Nat.lt_succ_of_lt hlS)
        have nS : s.heap.objs.size ∉ [(s.heap.push { cls := .type "set", dict := none, data := .set #[] 0 (.fresh 0 0 (!w.params.followText "set-order")) }).objs.size, l] := by
          rw [Heap.size_push]; simp only [List.mem_cons, List.mem_singleton, List.not_mem_nil, or_false, not_or]
          exact ⟨Nat.ne_of_lt (Nat.lt_succ_self _), Nat.ne_of_gt hlS⟩
        have hval : ∀ (i : Nat) (v : Value), items[i]? = some v → ∃ k t, ns[i]? = some k ∧ v = .int k t := fun i v hv => by
          have hi : i < ns.length := by rw [← nsz]; exact (Array.getElem?_eq_some_iff.mp hv).1
          obtain ⟨t, e⟩ := PyProof.Rows.IntsAre.int_at hit i v (by rw [Array.getElem?_toList]; exact hv)
          refine ⟨ns[i], t, List.getElem?_eq_getElem hi, ?_⟩
          rw [e, List.getD_eq_getElem?_getD, List.getElem?_eq_getElem hi] <;> rfl
        refine set_update_ints ((Walks.list hh3 _ l nI items).toS) s.heap.objs.size
          nS ns nsz hb hval (items.size - 0) 0 _ (by omega) (Nat.zero_le _)
          ⟨⟨_, Heap.get?_push_size _ rfl, rfl, rfl⟩, (hl1.push _)⟩ ?hS0 ?hR
        case hS0 =>
          have hget : ((s.heap.push { cls := .type "set", dict := none, data := .set #[] 0 (.fresh 0 0 (!w.params.followText "set-order")) }).push { cls := .type "list_iterator", data := .fields #[.ref l, .int 0 0] }).get? s.heap.objs.size
              = some { cls := .type "set", dict := none, data := .set #[] 0 (.fresh 0 0 (!w.params.followText "set-order")) } := Heap.get?_push_of_some _ hS
          exact ⟨0, Nat.le_refl 0, setR_new_at hget⟩
        case hR =>
          intro s' c' hm hc' hS'
          obtain ⟨g, g2, d', tk', os'⟩ := s'
          have eg : g2 = s.gens := hm.gens
          have ed : d' = s.drawn := hm.drawn
          have eo : os' = s.os := hm.os
          subst eg; subst ed; subst eo
          show wpAny _ _ _ _ _ _
          refine wpAny_pure ?_
          show wpAny _ _ (ret Value.none) _ _ _
          rw [nsz] at hc'
          refine wpAny_pure ⟨rfl, g, tk', c', rfl, hS', hc', fun b o e => ?_⟩
          have hb0 : b < s.heap.objs.size := Heap.lt_size e
          have hb1 : b ≠ s.heap.objs.size := Nat.ne_of_lt hb0
          have hb2 : b ≠ (s.heap.push { cls := .type "set", dict := none, data := .set #[] 0 (.fresh 0 0 (!w.params.followText "set-order")) }).objs.size := by
            rw [Heap.size_push]; exact Nat.ne_of_lt (Nat.lt_succ_of_lt hb0)
          exact hm.heap b o (by simp only [List.mem_cons, List.mem_singleton, List.not_mem_nil, or_false, not_or]; exact ⟨hb1, hb2⟩) (Heap.get?_push_of_some _ (Heap.get?_push_of_some _ e))
      · cases r₂ with
        | error e => exact hr₂
        | ok fl₂ =>
          cases fl₂ with
          | ret r =>
            obtain ⟨rfl, g, tk, c', rfl, hS', hc', hk'⟩ := hr₂
            repeat (any_goals (first | assumption | wp_step))
            exact fin _ _ _ hS' hc' hk'
          | _ => exact hr₂.elim
    | _ => exact hr.elim

theorem sorted_set_any {a : Addr} {S : Int → Bool} {n : Nat} {Q : Value → Shared → Prop} (R : SetR w s.heap a S n) (hh : A.handled = none)
    (fin : ∀ s' p (out : List Value) (c : Nat) (ns : List Int), (∀ b o, s.heap.get? b = some o → s'.heap.get? b = some o) → s'.gens = s.gens → s'.os = s.os → s.heap.objs.size ≤ p →
      s'.heap.get? p = some (seqObj "list" out.toArray c) → IntsAre out ns → ns.Pairwise (· < ·) → (∀ k, k ∈ ns ↔ S k = true) → ns.length = n → Q (.ref p) s') :
    wpAny (model P w) A (call (.builtin "sorted") [.ref a]) Q E s := by
  obtain ⟨o, es, ep, t, ho, hex, hd, g, nd, hm, hb, hf, hn, hr, hl⟩ := R
  refine Calls.call_function_entry kind_sorted plain_sorted entry_sorted (args_sorted1 _) ?_
  unfold Builtin.«sorted»
  refine wpAny_bind (m := checkCount "sorted" 1 1 _) (wpAny_pure ?_)
  refine wpAny_bind (collect_set (A := A.in1) hh ⟨o, ho, hex.1, hd⟩ hf hb hr hl fun s1 vs kp hz g1 o1 pm => ?_)
  have lv : vs.length = n := by rw [pm.length_eq, List.length_map, Array.length_toList]; exact hn
  have hI : IntsAre vs (vs.map Builtin.Re.reRawOf) := L2.ints_of vs fun v hv => by
    obtain ⟨e, he, q⟩ := List.mem_map.mp (pm.mem_iff.mp hv)
    obtain ⟨k, tk, h1, _⟩ := g e he
    exact ⟨k, tk, by rw [← q]; exact h1⟩
  have pk : (vs.map Builtin.Re.reRawOf).Perm (es.toList.map L2.keyOf) := by
    have q := pm.map Builtin.Re.reRawOf
    rw [List.map_map] at q
    exact q
  have small : vs.length ≤ sizeLine := by
    rw [lv, ← hn, sizeLine_eq]
    have : es.size < scanBound := hb
    unfold scanBound at this
    omega
  refine wpAny_bind (wpAny_newList ?_ small)
  have hoL : (s1.heap.push (seqObj "list" vs.toArray 0)).get? s1.heap.objs.size = some (seqObj "list" vs.toArray 0) := Heap.get?_push_size _ rfl
  refine wpAny_bind (wpAny_holding (wpAny_call_entry slot_list_sort ⟨_, hoL, rfl⟩ entry_list_sort
    (SrtO.list_sort_ord SrtO.swo_int hoL small (fun h2 => SrtO.ints_sortable hI h2) fun out b1 b2 => ⟨_, rfl, ?_⟩) (args_list_sort _)))
  obtain ⟨j1, j2, j3⟩ := SrtO.ints_out hI b1 b2
  obtain ⟨c, hc⟩ := PyProof.Rows.sortedHeap_at (vs := vs) (out := out.toArray) hoL
  have pn : (out.map SrtO.iv).Perm (es.toList.map L2.keyOf) := j2.trans pk
  refine wpAny_pure ⟨_, rfl, fin _ s1.heap.objs.size out c (out.map SrtO.iv) (fun b u e => ?_) g1 o1 hz hc j1 (L2.lt_of_le_nodup _ j3 (pn.nodup_iff.mpr nd)) (fun k => by rw [pn.mem_iff, ← hm k]) ?_⟩
  · have q := kp b u e
    have hlt := Heap.lt_size q
    show (PyProof.Rows.sortedHeap (s1.heap.push (seqObj "list" vs.toArray 0)) s1.heap.objs.size vs out.toArray).get? b = some u
    rw [PyProof.Rows.sortedHeap_old (Nat.ne_of_lt hlt) (by rw [size_push']; exact Nat.lt_succ_of_lt hlt)]
    exact Heap.get?_push_of_some _ q
  · rw [pn.length_eq, List.length_map, Array.length_toList]; exact hn
end

section
variable {X : Cx}
/-- set(xs), xs a list of ints, fewer than 4,000 -/
def rSetOf (K : PySem.W.Frag) (w : World) : List V → Hp → VK → Prop := fun vs H Q => ∃ (l : Addr) (ns : List Int), vs = [V.ref l] ∧ SqL K H l (ns.map V.int) ∧ ns.length ≤ 4000 ∧
  ∀ (p : Addr) (c : Nat), H p = none → Q (.ref p) (upd H p (SetO w p (fun j => decide (j ∈ ns)) c))
theorem cr_setOf (hc : X.calm = true) : CallR X (.type "set") (rSetOf X.K X.w) := by
  intro pins s σ H vs us Q I r h
  obtain ⟨l, ns, rfl, hs, hlen, q⟩ := h
  rw [Vals.ref1 r]
  obtain ⟨its, rv, hl, hz⟩ := I.list hs
  refine set_of_list ns (I.ok.hd hc) hl.isList (by simpa using rv.ints) (by unfold scanBound; omega) fun g tk c R _ kp => ?_
  refine ⟨.ref s.heap.objs.size, upd H s.heap.objs.size (SetO X.w s.heap.objs.size (fun j => decide (j ∈ ns)) c), I.laid (t' := tk) kp (Nat.le_refl _) (setO_new R), rfl, q _ c (I.hok.fresh (Nat.le_refl _))⟩
/-- sorted(found), any number of members -/
def rSortedSetA (w : World) : List V → Hp → VK → Prop := fun vs H Q => ∃ (a : Addr) (S : Int → Bool) (n : Nat), vs = [V.ref a] ∧ H a = some (SetO w a S n) ∧
  ∀ (ns : List Int) (p : Addr), ns.Pairwise (· < ·) → (∀ k : Int, k ∈ ns ↔ S k = true) → H p = none → Q (.ref p) (upd H p (.lst (ns.map V.int)))
theorem cr_sortedSetA (hc : X.calm = true) : CallR X (.builtin "sorted") (rSortedSetA X.w) := by
  intro pins s σ H vs us Q I r h
  obtain ⟨a, S, n, rfl, ha, q⟩ := h
  have R := setO_get I ha
  rw [Vals.ref1 r]
  have hb : n ≤ 4096 := by
    obtain ⟨o, es, ep, t, ho, hex, hd, g, nd, hm, hb, hf, hn, hr, hl⟩ := id R
    have : es.size < scanBound := hb
    unfold scanBound at this
    omega
  refine sorted_set_any R (I.ok.hd hc) fun s' p out c ns k g o hp hg hi hs hm hl => ?_
  have hlen : (ns.map V.int).length ≤ sizeLine := by rw [List.length_map, hl, sizeLine_eq]; omega
  have hn : H p = none := I.hok.fresh hp
  have J : Inv X pins σ (upd H p (.lst (ns.map V.int))) { s with heap := s'.heap, gens := s'.gens, drawn := s'.drawn, toks := s'.toks } :=
    I.call (ch := []) (Un.laid k hp hn) (I.hok.laid k hp ⟨hlen, out, c, vals_of_ints hi, hg⟩) (by rw [g]; exact I.bare) (fun _ z => nomatch z)
  have e : s' = { s with heap := s'.heap, gens := s'.gens, drawn := s'.drawn, toks := s'.toks } := by
    cases s'
    cases s
    cases o
    rfl
  rw [e]
  exact ⟨.ref p, _, J, rfl, q ns p hs hm hn⟩
end
end Fr0

/-! ## R2 -/
set_option Elab.async false
set_option linter.all false
set_option maxRecDepth 100000
set_option maxHeartbeats 4000000
namespace Fr0
open PySem PySem.Spec PyProof.Rows L2
/-! ### t.index(k), a tuple of ints -/
theorem flat_ints (ys : List Int) : (ys.map V.int).all flatV = true := by
  rw [List.all_map]
  exact List.all_eq_true.mpr fun _ _ => rfl
section
variable {X : Cx}
def rTIx (K : PySem.W.Frag) : V → List V → Hp → VK → Prop := fun x xs H Q => ∃ (p : Addr) (ys : List Int) (z : Int) (j : Nat), x = .ref p ∧ xs = [.int z] ∧ SqT K H p (ys.map V.int) ∧ ys[j]? = some z ∧ (∀ m, m < j → ys[m]? ≠ some z) ∧ Q (.int (j : Nat)) H
theorem mt_tixI : MtR X "tuple.index" (rTIx X.K) := by
  intro pins s σ H x xs v us Q I rx rs h
  obtain ⟨p, ys, z, j, rfl, rfl, hq, hy, hno, q⟩ := h
  cases rx
  obtain ⟨u, rfl, t, rfl⟩ := vals1 rs
  obtain ⟨its, r, pl, hz⟩ := I.tuple hq
  obtain ⟨⟨cls, dd, dt, sl⟩, ho, hc, n, hd⟩ := pl
  simp only at hc hd
  subst hc
  subst hd
  have hl : its.toArray.size = ys.length := by rw [List.size_toArray, ← r.length, List.length_map]
  have hj : j < its.toArray.size := by rw [hl]; exact (List.getElem?_eq_some_iff.mp hy).1
  have at1 : ∀ (m : Nat) (hm : m < its.toArray.size), ∃ y t', ys[m]? = some y ∧ its.toArray[m] = Value.int y t' := fun m hm => by
    have hm' : m < ys.length := by rw [← hl]; exact hm
    obtain ⟨w, hw, t', hw'⟩ := r.get (i := m) (x := .int ys[m]) (by simp [hm'])
    refine ⟨ys[m], t', List.getElem?_eq_getElem hm', ?_⟩
    have e := (List.getElem?_eq_some_iff.mp hw).2
    rw [← hw', ← e]
    simp
  refine call_meets PySem.F.slot_tuple_index ⟨_, ho, rfl⟩ PySem.F.entry_tuple_index (PySem.F.args_tuple_index_2 _ _) (TI.tuple_indexAt p its.toArray n dd sl (.int z t) (eqU (.int z)) j hj ?_ ?_)
    ⟨ho, fun w hw => mem_eqAt (x := .int z) ⟨t, rfl⟩ rfl r (flat_ints ys) w (by simpa using hw), ⟨.int (j : Nat), H, I.tok _, ⟨_, rfl⟩, q⟩⟩
  · obtain ⟨y, t', h1, h2⟩ := at1 j hj
    rw [hy] at h1
    cases h1
    rw [h2]
    show (z == z) = true
    exact beq_self_eq_true z
  · intro m hm hmj
    obtain ⟨y, t', h1, h2⟩ := at1 m hm
    rw [h2]
    show (y == z) = false
    exact beq_eq_false_iff_ne.mpr fun e => hno m hmj (e ▸ h1)
end
/-! ### o.m(k = v), a method with keyword-only parameters -/
def tMethKw (C : Addr) (m : Str) (n : Nat) (sp : Sp) (gV : List V → List V → List V) (E : XK) (ta : TE) (tk : TA) : TE := fun σ H Q => ta σ H fun x H1 => ∃ a dx fs, x = .ref a ∧ H1 a = some (.ins C dx fs) ∧ fs.lookup m = none ∧
  tk σ H1 fun zs H2 => zs.length = n ∧ sp (gV [x] zs) H2 Q E
section
variable {X : Cx} {CX : CXT} {k : Nat} {f C : Addr} {fd : FuncData} {ps ks : List Str} {sp : Sp} {E : XK} {m : Str} {p pos apos : Pos} {o : Expr} {kws : List Keyword} {ta : TE} {tk : TA} {g : List Value → List Value → List Value} {gV : List V → List V → List V}
theorem pe_methKw {pl : Sem Bool} (he : PE X o ta) (c : Cls X.K C) (hm : Meth X.K C m f) (F : FnOk X.prog X.w X.K X.mg X.base CX k f fd ps sp) (hr : Room k X.A) (hb : KBn X.K fd ps 1 ks g gV) (hx : Passes CX X E) (hkw : PK X kws tk)
    (hall : (backToKw pos (keywordEach kws X.env)).all (·.1.isSome) = true := by rfl) (hks : (backToKw pos (keywordEach kws X.env)).filterMap (·.1) = ks := by rfl)
    (hpl : ((backTo pos (starEach [] X.env)).any (·.1) || (backToKw pos (keywordEach kws X.env)).any (·.1.isNone)) = false := by rfl)
    (ht : eval (.Call (.Attribute o m apos) [] kws pos) X.env = (do
      let ov ← eval o X.env
      standAt apos.atName
      let (f, first) ← holding [ov] (getMethod ov m pl)
      callWith pos f first (backTo pos (starEach [] X.env)) (backToKw pos (keywordEach kws X.env))) := by rfl) :
    PE X (.Call (.Attribute o m apos) [] kws pos) (tMethKw C m ks.length sp gV E ta tk) := by
  refine ⟨fun pins s σ H Q I h => ?_⟩
  refine PySem.W.methodCall_KW (pl := pl) (thn (he.run pins s σ H _ I h) fun u s1 ⟨x, H1, I1, rx, a, dx, fs, ex, ea, l, q⟩ => ?_) ht
  subst ex
  obtain rfl : u = Value.ref a := rx
  refine getmeth_ok I1 ea c hm l ?_
  refine PySem.W.callWith_KW0 (first := [.ref a]) (h₀ := X.base) I.ok.mod.kin hm.kp hall ?_ hpl
  refine thn (hkw.run pos pins s1 σ H1 _ I1 q) fun ws s2 ⟨zs, H2, I2, rz, l2, q2⟩ => ⟨I2.kIn, ?_⟩
  rw [hks]
  exact run_fnN (us := [.ref a]) (vs := [.ref a]) F hr hb hx I2 (.cons rfl .nil) rz rfl l2 q2
end
end Fr0

/-! ## R3 -/
set_option Elab.async false
set_option linter.all false
set_option maxRecDepth 100000
set_option maxHeartbeats 4000000
namespace Fr0
open PySem PySem.Spec PyProof.Rows L2
section
variable {X : Cx}
/-- tuple(xs) of a list: a new tuple, known to its object (it has no dict of its own) -/
def rTupF (K : PySem.W.Frag) : List V → Hp → VK → Prop := fun vs H Q => ∃ p ys, vs = [.ref p] ∧ SqL K H p ys ∧ ∀ l o, o.dict = none → H l = none → Q (.ref l) (upd H l (.frz o (.tup ys)))
theorem cr_tupF : CallR X (.type "tuple") (rTupF X.K) := by
  intro pins s σ H vs us Q I r h
  obtain ⟨p, ys, rfl, hs, q⟩ := h
  rw [Vals.ref1 r]
  obtain ⟨its, rv, pl, hz⟩ := I.list hs
  refine call_tuple_list pl.isList (fun h' hk => ?_) (by rw [List.size_toArray, ← rv.length]; exact hz)
  have I1 : Inv X pins σ H { s with heap := h' } := I.kept (t' := s.toks) hk
  refine ⟨.ref h'.objs.size, upd H h'.objs.size (.frz { cls := .type "tuple", data := .seq its.toArray } (.tup ys)), I1.laid (t' := s.toks) (fun b o e => Heap.get?_push_of_some _ e) (Nat.le_refl _) ?_, rfl, q _ _ rfl (I1.hok.fresh (Nat.le_refl _))⟩
  exact ⟨Heap.get?_push_size _ rfl, hz, its, rv, IsTup.new _ _⟩
/-- t.index(k), t such a tuple of ints -/
def tTix (K : PySem.W.Frag) (to : TE) (t : TA) : TE := fun σ H Q => to σ H fun x H1 => (∃ p o ys, x = V.ref p ∧ H1 p = some (.frz o (.tup ys)) ∧ o.dict = none) ∧ t σ H1 fun xs H2 => rTIx K x xs H2 Q
variable {o e : Expr} {es : List Expr} {to : TE} {t : TA} {apos cpos : Pos}
theorem pe_tix (ho : PE X o to) (ha : PA X (e :: es) t)
    (hbase : attributeBase o "index" X.env (eval o X.env) = eval o X.env := by rfl)
    (hfew : ((backTo cpos (starEach (e :: es) X.env)).all (fun x => !x.1) && (backToKw cpos (keywordEach [] X.env)).all (fun x => x.1.isSome)
      && decide ((e :: es).length + ([] : List Keyword).length + (if ([] : List Keyword).isEmpty then 0 else 1) < 30)) = true := by rfl)
    (hline : (apos.endLine == cpos.line) = true := by rfl) (hs : starEach (e :: es) X.env = (false, eval e X.env) :: starEach es X.env := by rfl) (hplain : (backTo cpos (starEach es X.env)).any (·.1) = false := by rfl) :
    PE X (.Call (.Attribute o "index" apos) (e :: es) [] cpos) (tTix X.K to t) := by
  refine ⟨fun pins s σ H Q I h => ?_⟩
  refine wpAny_Call_method_late hbase hfew hline rfl (thn (ho.run pins s σ H _ I h) fun v s1 ⟨x, H1, I1, r1, ty, q1⟩ => ?_)
  obtain ⟨p, ob, ys, rfl, hp, hd⟩ := ty
  obtain ⟨hob, hz, its, rv, pt⟩ := I1.hok p _ hp
  cases r1
  have hT : s1.TypeIs (.ref p) "tuple" := pt.typeIs
  refine ⟨"tuple", "tuple.index", PySem.F.plainAttrs_tuple, PySem.F.slot_tuple_index, PySem.F.type_tuple_index, hT, (fun a e => by cases e; exact ⟨ob, hob, hd⟩), ?_⟩
  have hA := ha.run cpos pins s1 σ H1 _ I1 q1
  rw [hs] at hA ⊢
  refine Calls.callWith_builtin (by show (false || (backTo cpos (starEach es X.env)).any (·.1)) = false; rw [hplain] <;> rfl) (Calls.evalArgs_plain ?_)
  exact thn hA fun us s2 ⟨vs, H2, I2, r2, q2⟩ => mt_tixI pins s2 σ H2 (.ref p) vs (.ref p) us Q I2 rfl r2 q2
end
end Fr0

/-! ## M1 -/
set_option linter.all false
/-! The mathematics of doors in a ring: sums, ways, costs, leaps. No program here. -/
namespace Fw
/-! ### sums -/
def S (ps : List Int) (i : Int) : Int := (ps.take i.toNat).sum
def W (ps : List Int) : Int := ps.sum
def far (ps : List Int) (i j : Int) : Int := if i ≤ j then S ps j - S ps i else W ps - S ps i + S ps j
def way (ps : List Int) (i j : Int) : Int := if i = j then W ps else far ps i j
structure Good (ps gs : List Int) : Prop where
  pos : ∀ p ∈ ps, (1 : Int) ≤ p
  ne : gs ≠ []
  asc : gs.Pairwise (· < ·)
  lo : ∀ g ∈ gs, (0 : Int) ≤ g
  hi : ∀ g ∈ gs, g < (ps.length : Int)
def Pos (ps : List Int) : Prop := ∀ p ∈ ps, (1 : Int) ≤ p
/-- a position of the ring -/
def In (ps : List Int) (i : Int) : Prop := 0 ≤ i ∧ i < (ps.length : Int)

theorem S_zero (ps : List Int) : S ps 0 = 0 := rfl
theorem S_nat (ps : List Int) (n : Nat) : S ps (n : Int) = (ps.take n).sum := by
  unfold S
  rw [Int.toNat_natCast]
theorem S_len (ps : List Int) : S ps (ps.length : Int) = W ps := by
  rw [S_nat, List.take_length]; rfl
theorem sum_take_succ : ∀ (l : List Int) (n : Nat) (z : Int), l[n]? = some z → (l.take (n + 1)).sum = (l.take n).sum + z
  | [], n, z, h => by simp at h
  | a :: r, 0, z, h => by
    have e : a = z := Option.some.inj h
    subst e
    simp
  | a :: r, n + 1, z, h => by
    have ih := sum_take_succ r n z h
    show (a :: r.take (n + 1)).sum = (a :: r.take n).sum + z
    rw [List.sum_cons, List.sum_cons, ih]
    omega
theorem S_succ {ps : List Int} {n : Nat} {z : Int} (h : ps[n]? = some z) : S ps ((n : Int) + 1) = S ps (n : Int) + z := by
  have e : ((n : Int) + 1) = ((n + 1 : Nat) : Int) := by omega
  rw [e, S_nat, S_nat]
  exact sum_take_succ ps n z h
theorem S_step {ps : List Int} (hp : Pos ps) {n : Nat} (h : n < ps.length) : S ps (n : Int) + 1 ≤ S ps ((n + 1 : Nat) : Int) := by
  have e := S_succ (ps := ps) (n := n) (List.getElem?_eq_getElem h)
  have h1 := hp _ (List.getElem_mem h)
  have e2 : ((n + 1 : Nat) : Int) = (n : Int) + 1 := by omega
  rw [e2, e]
  omega
theorem S_mono_nat {ps : List Int} (hp : Pos ps) {i : Nat} : ∀ k : Nat, i + k ≤ ps.length → S ps (i : Int) + (k : Int) ≤ S ps ((i + k : Nat) : Int)
  | 0, _ => by simp
  | k + 1, h => by
    have ih := S_mono_nat hp (i := i) k (by omega)
    have st := S_step hp (n := i + k) (by omega)
    have e : ((i + k + 1 : Nat) : Int) = ((i + (k + 1) : Nat) : Int) := by omega
    rw [e] at st
    omega
theorem S_lt {ps : List Int} (hp : Pos ps) {i j : Int} (h0 : 0 ≤ i) (h : i < j) (hj : j ≤ (ps.length : Int)) : S ps i < S ps j := by
  obtain ⟨a, rfl⟩ := Int.eq_ofNat_of_zero_le h0
  obtain ⟨b, rfl⟩ := Int.eq_ofNat_of_zero_le (show 0 ≤ j by omega)
  have q := S_mono_nat hp (i := a) (b - a) (by omega)
  have e : a + (b - a) = b := by omega
  rw [e] at q
  omega
theorem S_le {ps : List Int} (hp : Pos ps) {i j : Int} (h0 : 0 ≤ i) (h : i ≤ j) (hj : j ≤ (ps.length : Int)) : S ps i ≤ S ps j := by
  by_cases e : i = j
  · rw [e]; exact Int.le_refl _
  · have := S_lt hp h0 (by omega) hj
    omega
theorem S_nonneg {ps : List Int} (hp : Pos ps) {i : Int} (h0 : 0 ≤ i) (hj : i ≤ (ps.length : Int)) : 0 ≤ S ps i := by
  have := S_le hp (i := 0) (j := i) (by omega) h0 hj
  rw [S_zero] at this
  exact this
theorem S_ltW {ps : List Int} (hp : Pos ps) {i : Int} (hi : In ps i) : S ps i < W ps := by
  rw [← S_len]
  exact S_lt hp hi.1 hi.2 (by omega)
theorem W_pos {ps : List Int} (hp : Pos ps) (h : ps ≠ []) : 0 < W ps := by
  have hl : 0 < ps.length := List.length_pos_iff.mpr h
  have := S_lt hp (i := 0) (j := (ps.length : Int)) (by omega) (by omega) (by omega)
  rw [S_zero, S_len] at this
  exact this

/-! ### ways -/
theorem emod_small {a b : Int} (h0 : 0 ≤ a) (h : a < b) : a % b = a := Int.emod_eq_of_lt h0 h
theorem emod_neg {a b : Int} (h0 : -b ≤ a) (h : a < 0) : a % b = a + b := by
  have e : a % b = (a + b) % b := by rw [Int.add_emod_right]
  rw [e]
  exact Int.emod_eq_of_lt (by omega) (by omega)
theorem far_mod {ps : List Int} (hp : Pos ps) {i j : Int} (hi : In ps i) (hj : In ps j) : (S ps j - S ps i) % W ps = far ps i j := by
  have a1 := S_nonneg hp hi.1 (Int.le_of_lt hi.2)
  have a2 := S_nonneg hp hj.1 (Int.le_of_lt hj.2)
  have b1 := S_ltW hp hi
  have b2 := S_ltW hp hj
  unfold far
  by_cases h : i ≤ j
  · rw [if_pos h]
    have := S_le hp hi.1 h (Int.le_of_lt hj.2)
    exact emod_small (by omega) (by omega)
  · rw [if_neg h]
    have := S_lt hp hj.1 (show j < i by omega) (Int.le_of_lt hi.2)
    rw [emod_neg (by omega) (by omega)]
    omega
theorem far_self (ps : List Int) (i : Int) : far ps i i = 0 := by
  unfold far
  rw [if_pos (Int.le_refl i)]
  omega
theorem far_range {ps : List Int} (hp : Pos ps) {i j : Int} (hi : In ps i) (hj : In ps j) : 0 ≤ far ps i j ∧ far ps i j < W ps := by
  have a1 := S_nonneg hp hi.1 (Int.le_of_lt hi.2)
  have a2 := S_nonneg hp hj.1 (Int.le_of_lt hj.2)
  have b1 := S_ltW hp hi
  have b2 := S_ltW hp hj
  unfold far
  by_cases h : i ≤ j
  · rw [if_pos h]
    have := S_le hp hi.1 h (Int.le_of_lt hj.2)
    omega
  · rw [if_neg h]
    have := S_lt hp hj.1 (show j < i by omega) (Int.le_of_lt hi.2)
    omega
/-- seen from s: how far -/
abbrev vw (ps : List Int) (s e : Int) : Int := far ps s e
/-- the three orders of three positions -/
theorem way_line {ps : List Int} (hp : Pos ps) {s d e : Int} (hs : In ps s) (hd : In ps d) (he : In ps e) (h : vw ps s d < vw ps s e) : way ps d e = vw ps s e - vw ps s d := by
  have a1 := S_nonneg hp hs.1 (Int.le_of_lt hs.2)
  have a2 := S_nonneg hp hd.1 (Int.le_of_lt hd.2)
  have a3 := S_nonneg hp he.1 (Int.le_of_lt he.2)
  have b1 := S_ltW hp hs
  have b2 := S_ltW hp hd
  have b3 := S_ltW hp he
  unfold vw at h ⊢
  have ne : d ≠ e := fun q => by rw [q] at h; omega
  unfold way
  rw [if_neg ne]
  unfold far at h ⊢
  by_cases h1 : s ≤ d <;> by_cases h2 : s ≤ e <;> by_cases h3 : d ≤ e <;> simp only [h1, h2, h3, if_true, if_false] at h ⊢
  · omega
  · have := S_lt hp he.1 (show e < d by omega) (Int.le_of_lt hd.2)
    omega
  · omega
  · omega
  · omega
  · omega
  · omega
  · have := S_lt hp he.1 (show e < d by omega) (Int.le_of_lt hd.2)
    omega
theorem way_back {ps : List Int} (hp : Pos ps) {s d : Int} (hs : In ps s) (hd : In ps d) : way ps d s = W ps - vw ps s d := by
  have a1 := S_nonneg hp hs.1 (Int.le_of_lt hs.2)
  have a2 := S_nonneg hp hd.1 (Int.le_of_lt hd.2)
  unfold way vw
  by_cases e : d = s
  · rw [if_pos e, e, far_self]
    omega
  · rw [if_neg e]
    unfold far
    by_cases h1 : s ≤ d
    · have : ¬ d ≤ s := by omega
      rw [if_pos h1, if_neg this]
      omega
    · have : d ≤ s := by omega
      rw [if_neg h1, if_pos this]
      omega
/-- a position that is not farther than d: its way from d passes s -/
theorem mod_behind {ps : List Int} (hp : Pos ps) {s d e : Int} (hs : In ps s) (hd : In ps d) (he : In ps e) (h : vw ps s e ≤ vw ps s d) : e = d ∨ W ps - vw ps s d ≤ far ps d e := by
  have a1 := S_nonneg hp hs.1 (Int.le_of_lt hs.2)
  have a2 := S_nonneg hp hd.1 (Int.le_of_lt hd.2)
  have a3 := S_nonneg hp he.1 (Int.le_of_lt he.2)
  have b1 := S_ltW hp hs
  have b2 := S_ltW hp hd
  have b3 := S_ltW hp he
  by_cases q : e = d
  · exact .inl q
  right
  unfold vw at h ⊢
  unfold far at h ⊢
  by_cases h3 : d ≤ e
  · have t1 := S_lt hp hd.1 (show d < e by omega) (Int.le_of_lt he.2)
    by_cases h1 : s ≤ d
    · have h2 : s ≤ e := by omega
      simp only [h1, h2, h3, if_true] at h ⊢
      omega
    · by_cases h2 : s ≤ e
      · simp only [h1, h2, h3, if_true, if_false] at h ⊢
        have := S_le hp hs.1 h2 (Int.le_of_lt he.2)
        omega
      · simp only [h1, h2, h3, if_true, if_false] at h ⊢
        omega
  · have t1 := S_lt hp he.1 (show e < d by omega) (Int.le_of_lt hd.2)
    by_cases h1 : s ≤ d
    · by_cases h2 : s ≤ e
      · simp only [h1, h2, h3, if_true, if_false] at h ⊢
        have := S_le hp hs.1 h2 (Int.le_of_lt he.2)
        omega
      · simp only [h1, h2, h3, if_true, if_false] at h ⊢
        omega
    · have h2 : ¬ s ≤ e := by omega
      simp only [h1, h2, h3, if_true, if_false] at h ⊢
      have := S_lt hp hd.1 (show d < s by omega) (Int.le_of_lt hs.2)
      omega
/-- of an ascending list that does not contain s between: the order seen from s -/
theorem vw_up {ps : List Int} (hp : Pos ps) {s d e : Int} (hs : In ps s) (hd : In ps d) (he : In ps e) (h : d < e) (hb : s < d ∨ e ≤ s ∨ s = d) : (s ≤ d ∨ e < s) → vw ps s d < vw ps s e := by
  intro hc
  have t1 := S_lt hp hd.1 h (Int.le_of_lt he.2)
  unfold vw far
  rcases hc with hc | hc
  · have h2 : s ≤ e := by omega
    simp only [hc, h2, if_true]
    omega
  · have h1 : ¬ s ≤ d := by omega
    have h2 : ¬ s ≤ e := by omega
    simp only [h1, h2, if_false]
    omega
theorem vw_wrap {ps : List Int} (hp : Pos ps) {s d e : Int} (hs : In ps s) (hd : In ps d) (he : In ps e) (h1 : s ≤ d) (h2 : e < s) : vw ps s d < vw ps s e := by
  have a3 := S_nonneg hp he.1 (Int.le_of_lt he.2)
  have b2 := S_ltW hp hd
  unfold vw far
  have h3 : ¬ s ≤ e := by omega
  simp only [h1, h3, if_true, if_false]
  omega
theorem vw_pos {ps : List Int} (hp : Pos ps) {s e : Int} (hs : In ps s) (he : In ps e) (h : e ≠ s) : 0 < vw ps s e := by
  have a3 := S_nonneg hp he.1 (Int.le_of_lt he.2)
  have b2 := S_ltW hp hs
  unfold vw far
  by_cases h1 : s ≤ e
  · have := S_lt hp hs.1 (show s < e by omega) (Int.le_of_lt he.2)
    rw [if_pos h1]
    omega
  · rw [if_neg h1]
    omega
end Fw

/-! ## M2 -/
set_option linter.all false
/-! Lists of ints: the greatest, places. -/
namespace Fw
def maxL : List Int → Int
  | [] => 0
  | x :: xs => xs.foldl max x
theorem foldl_max_ge : ∀ (xs : List Int) (a : Int), a ≤ xs.foldl max a ∧ ∀ y ∈ xs, y ≤ xs.foldl max a
  | [], a => ⟨Int.le_refl a, fun y h => by cases h⟩
  | x :: xs, a => by
    have ih := foldl_max_ge xs (max a x)
    refine ⟨Int.le_trans (Int.le_max_left a x) ih.1, fun y h => ?_⟩
    rcases List.mem_cons.mp h with e | h
    · rw [e]
      exact Int.le_trans (Int.le_max_right a x) ih.1
    · exact ih.2 y h
theorem foldl_max_mem : ∀ (xs : List Int) (a : Int), xs.foldl max a = a ∨ xs.foldl max a ∈ xs
  | [], a => .inl rfl
  | x :: xs, a => by
    show xs.foldl max (max a x) = a ∨ xs.foldl max (max a x) ∈ x :: xs
    rcases foldl_max_mem xs (max a x) with e | h
    · rw [e]
      by_cases q : a ≤ x
      · rw [Int.max_eq_right q]
        exact .inr (List.mem_cons_self ..)
      · rw [Int.max_eq_left (by omega)]
        exact .inl rfl
    · exact .inr (List.mem_cons_of_mem _ h)
theorem maxL_mem {l : List Int} (h : l ≠ []) : maxL l ∈ l := by
  cases l with
  | nil => exact absurd rfl h
  | cons x xs =>
    show xs.foldl max x ∈ x :: xs
    rcases foldl_max_mem xs x with e | h
    · rw [e]; exact List.mem_cons_self ..
    · exact List.mem_cons_of_mem _ h
theorem maxL_ge {l : List Int} {y : Int} (h : y ∈ l) : y ≤ maxL l := by
  cases l with
  | nil => cases h
  | cons x xs =>
    show y ≤ xs.foldl max x
    rcases List.mem_cons.mp h with e | h
    · rw [e]; exact (foldl_max_ge xs x).1
    · exact (foldl_max_ge xs x).2 y h
theorem maxL_is {l : List Int} {m : Int} (h : m ∈ l) (hm : ∀ y ∈ l, y ≤ m) : m = maxL l := by
  have h1 := maxL_ge h
  have h2 := hm _ (maxL_mem (by intro e; rw [e] at h; cases h))
  omega
/-- the item at a place -/
def gi (xs : List Int) (i : Int) : Int := xs.getD i.toNat 0
theorem gi_nat (xs : List Int) (n : Nat) : gi xs (n : Int) = xs.getD n 0 := by
  unfold gi
  rw [Int.toNat_natCast]
theorem gi_some {xs : List Int} {n : Nat} {z : Int} (h : xs[n]? = some z) : gi xs (n : Int) = z := by
  rw [gi_nat, List.getD_eq_getElem?_getD, h]
  rfl
theorem gi_get {xs : List Int} {i : Int} (h0 : 0 ≤ i) (h : i < (xs.length : Int)) : xs[i.toNat]? = some (gi xs i) := by
  have hl : i.toNat < xs.length := by omega
  unfold gi
  rw [List.getElem?_eq_getElem hl, List.getD_eq_getElem?_getD, List.getElem?_eq_getElem hl]
  rfl
theorem gi_mem {xs : List Int} {i : Int} (h0 : 0 ≤ i) (h : i < (xs.length : Int)) : gi xs i ∈ xs := List.mem_of_getElem? (gi_get h0 h)
end Fw

/-! ## M3 -/
set_option linter.all false
namespace Fw
/-! ### gaps and costs of a list of positions, as the program and the law reckon them -/
def gap (ps ch : List Int) (k : Int) : Int := if (ch.length : Int) = 1 then W ps else far ps (gi ch k) (gi ch ((k + 1) % (ch.length : Int)))
def gaps (ps ch : List Int) : List Int := (List.range ch.length).map fun (k : Nat) => gap ps ch (k : Int)
def cost (ps ch : List Int) : Int := W ps - maxL (gaps ps ch)
theorem gaps_ne {ps ch : List Int} (h : ch ≠ []) : gaps ps ch ≠ [] := by
  unfold gaps
  intro e
  have := congrArg List.length e
  rw [List.length_map, List.length_range, List.length_nil] at this
  exact h (List.eq_nil_of_length_eq_zero this)
theorem asc_get {l : List Int} (h : l.Pairwise (· < ·)) {i : Nat} {x y : Int} (h1 : l[i]? = some x) (h2 : l[i + 1]? = some y) : x < y := by
  obtain ⟨a1, rfl⟩ := List.getElem?_eq_some_iff.mp h1
  obtain ⟨a2, rfl⟩ := List.getElem?_eq_some_iff.mp h2
  exact List.pairwise_iff_getElem.mp h i (i + 1) a1 a2 (by omega)
theorem emod_range {a b : Int} (h : 0 < b) : 0 ≤ a % b ∧ a % b < b := ⟨Int.emod_nonneg a (by omega), Int.emod_lt_of_pos a h⟩
end Fw

/-! ## M4 -/
set_option linter.all false
/-! Leaps: the greedy way round, and what it can reach. -/
namespace Fw
theorem Good.inn {ps gs : List Int} (g : Good ps gs) {x : Int} (h : x ∈ gs) : In ps x := ⟨g.lo x h, g.hi x h⟩
def run (ps : List Int) (L d : Int) (rest : List Int) : List Int := rest.takeWhile fun e => decide (way ps d e ≤ L)
def leapsR (ps : List Int) (L : Int) : Nat → Int → List Int → List Int
  | 0, _, _ => []
  | k + 1, d, rest => match (run ps L d rest).getLast? with
    | none => []
    | some m => m :: leapsR ps L k m (rest.drop (run ps L d rest).length)
def ahead (gs : List Int) (s : Int) : List Int := gs.drop (gs.idxOf s + 1) ++ gs.take (gs.idxOf s)
def leapsM (ps gs : List Int) (L n s : Int) : List Int := s :: leapsR ps L (n - 1).toNat s (ahead gs s)
def lastD : Int → List Int → Int
  | d, [] => d
  | _, x :: l => lastD x l
theorem lastD_append : ∀ (l : List Int) (d x : Int), lastD d (l ++ [x]) = x
  | [], _, _ => rfl
  | y :: l, _, x => lastD_append l y x
theorem lastD_getLast : ∀ (l : List Int) (d : Int), (d :: l).getLast? = some (lastD d l)
  | [], _ => rfl
  | x :: l, d => by
    rw [List.getLast?_cons_cons]
    exact lastD_getLast l x
theorem lastD_mem : ∀ (l : List Int) (d : Int), lastD d l ∈ d :: l
  | [], d => List.mem_cons_self ..
  | x :: l, d => List.mem_cons_of_mem _ (lastD_mem l x)
/-- where s stands -/
theorem at_idx {gs : List Int} {s : Int} (h : s ∈ gs) : gs[gs.idxOf s]? = some s := by
  have hl := List.idxOf_lt_length_of_mem h
  rw [List.getElem?_eq_getElem hl]
  exact congrArg some (List.getElem_idxOf hl)
theorem split_idx {gs : List Int} {s : Int} (h : s ∈ gs) : gs = gs.take (gs.idxOf s) ++ s :: gs.drop (gs.idxOf s + 1) := by
  have hl := List.idxOf_lt_length_of_mem h
  have e := List.drop_eq_getElem_cons hl
  rw [List.getElem_idxOf hl] at e
  rw [← e, List.take_append_drop]
structure Line (ps gs : List Int) (s d : Int) (rest : List Int) : Prop where
  asc : rest.Pairwise fun a b => vw ps s a < vw ps s b
  gt : ∀ e ∈ rest, vw ps s d < vw ps s e
  mem : ∀ e ∈ rest, e ∈ gs
  all : ∀ e ∈ gs, vw ps s d < vw ps s e → e ∈ rest
theorem line_start {ps gs : List Int} {s : Int} (g : Good ps gs) (hs : s ∈ gs) : Line ps gs s s (ahead gs s) := by
  have e := split_idx hs
  have hA : ∀ x ∈ gs.take (gs.idxOf s), x ∈ gs := fun x hx => List.mem_of_mem_take hx
  have hB : ∀ x ∈ gs.drop (gs.idxOf s + 1), x ∈ gs := fun x hx => List.mem_of_mem_drop hx
  have asc := g.asc
  rw [e] at asc
  rw [List.pairwise_append] at asc
  obtain ⟨aA, aB, aAB⟩ := asc
  rw [List.pairwise_cons] at aB
  obtain ⟨sB, aB⟩ := aB
  have As : ∀ x ∈ gs.take (gs.idxOf s), x < s := fun x hx => aAB x hx s (List.mem_cons_self ..)
  have is := g.inn hs
  unfold ahead
  refine ⟨?_, fun x hx => ?_, fun x hx => ?_, fun x hx hv => ?_⟩
  · rw [List.pairwise_append]
    refine ⟨?_, ?_, fun a ha b hb => ?_⟩
    · refine List.Pairwise.imp_of_mem (fun {a b} ha hb hab => ?_) aB
      exact vw_up g.pos is (g.inn (hB a ha)) (g.inn (hB b hb)) hab (.inl (sB a ha)) (.inl (Int.le_of_lt (sB a ha)))
    · refine List.Pairwise.imp_of_mem (fun {a b} ha hb hab => ?_) aA
      exact vw_up g.pos is (g.inn (hA a ha)) (g.inn (hA b hb)) hab (.inr (.inl (Int.le_of_lt (As b hb)))) (.inr (As b hb))
    · exact vw_wrap g.pos is (g.inn (hB a ha)) (g.inn (hA b hb)) (Int.le_of_lt (sB a ha)) (As b hb)
  · unfold vw
    rw [far_self]
    rcases List.mem_append.mp hx with hx | hx
    · exact vw_pos g.pos is (g.inn (hB x hx)) (by have := sB x hx; omega)
    · exact vw_pos g.pos is (g.inn (hA x hx)) (by have := As x hx; omega)
  · rcases List.mem_append.mp hx with hx | hx
    · exact hB x hx
    · exact hA x hx
  · have hx' := hx
    rw [e] at hx'
    rcases List.mem_append.mp hx' with q | q
    · exact List.mem_append.mpr (.inr q)
    · rcases List.mem_cons.mp q with q | q
      · rw [q] at hv
        exact absurd hv (Int.lt_irrefl _)
      · exact List.mem_append.mpr (.inl q)
theorem run_split (ps : List Int) (L d : Int) (rest : List Int) : rest = run ps L d rest ++ rest.drop (run ps L d rest).length := by
  have e : rest = run ps L d rest ++ rest.dropWhile fun e => decide (way ps d e ≤ L) := List.takeWhile_append_dropWhile.symm
  have e2 : rest.drop (run ps L d rest).length = rest.dropWhile fun e => decide (way ps d e ≤ L) := by
    conv => lhs; arg 2; rw [e]
    exact List.drop_left
  rw [e2]
  exact e
theorem run_le {ps : List Int} {L d : Int} : ∀ {rest : List Int} {x : Int}, x ∈ run ps L d rest → way ps d x ≤ L
  | [], x, h => by cases h
  | y :: r, x, h => by
    unfold run at h
    rw [List.takeWhile_cons] at h
    by_cases q : way ps d y ≤ L
    · rw [decide_eq_true q] at h
      rcases List.mem_cons.mp h with e | h
      · rw [e]; exact q
      · exact run_le (rest := r) h
    · rw [decide_eq_false q] at h
      cases h
theorem last_split {l : List Int} {m : Int} (h : l.getLast? = some m) : ∃ l', l = l' ++ [m] := List.getLast?_eq_some_iff.mp h
theorem line_step {ps gs : List Int} {s d m L : Int} {rest : List Int} (l : Line ps gs s d rest) (h : (run ps L d rest).getLast? = some m) : Line ps gs s m (rest.drop (run ps L d rest).length) ∧ m ∈ rest ∧ ∀ x ∈ run ps L d rest, vw ps s x ≤ vw ps s m := by
  have e := run_split ps L d rest
  obtain ⟨l', el⟩ := last_split h
  have asc := l.asc
  rw [e, List.pairwise_append] at asc
  obtain ⟨a1, a2, a3⟩ := asc
  have hm : m ∈ run ps L d rest := by rw [el]; exact List.mem_append_right _ (List.mem_singleton.mpr rfl)
  have hmr : m ∈ rest := by rw [e]; exact List.mem_append_left _ hm
  refine ⟨⟨a2, fun x hx => a3 m hm x hx, fun x hx => l.mem x (List.mem_of_mem_drop hx), fun x hx hv => ?_⟩, hmr, fun x hx => ?_⟩
  · have h1 := l.all x hx (Int.lt_trans (l.gt m hmr) hv)
    rw [e] at h1
    rcases List.mem_append.mp h1 with q | q
    · rw [el] at q a1
      rw [List.pairwise_append] at a1
      rcases List.mem_append.mp q with q | q
      · have := a1.2.2 x q m (List.mem_singleton.mpr rfl)
        omega
      · rw [List.mem_singleton.mp q] at hv
        omega
    · exact q
  · rw [el] at hx a1
    rw [List.pairwise_append] at a1
    rcases List.mem_append.mp hx with q | q
    · exact Int.le_of_lt (a1.2.2 x q m (List.mem_singleton.mpr rfl))
    · rw [List.mem_singleton.mp q]
      exact Int.le_refl _
/-- a door within the limit is in the run -/
theorem mem_run {ps gs : List Int} {s d : Int} {L : Int} (g : Good ps gs) (hs : s ∈ gs) (hd : d ∈ gs) : ∀ {rest : List Int} {t : Int}, (rest.Pairwise fun a b => vw ps s a < vw ps s b) → (∀ e ∈ rest, vw ps s d < vw ps s e) → (∀ e ∈ rest, e ∈ gs) → t ∈ rest → way ps d t ≤ L → t ∈ run ps L d rest
  | [], t, _, _, _, h, _ => by cases h
  | y :: r, t, asc, gt, mem, h, ht => by
    unfold run
    rw [List.takeWhile_cons]
    have wl : ∀ e ∈ y :: r, way ps d e = vw ps s e - vw ps s d := fun e he => way_line g.pos (g.inn hs) (g.inn hd) (g.inn (mem e he)) (gt e he)
    rw [List.pairwise_cons] at asc
    have hy : way ps d y ≤ L := by
      rcases List.mem_cons.mp h with e | h
      · rw [← e]; exact ht
      · have h1 := asc.1 t h
        have h2 := wl y (List.mem_cons_self ..)
        have h3 := wl t (List.mem_cons_of_mem _ h)
        omega
    rw [decide_eq_true hy]
    rcases List.mem_cons.mp h with e | h
    · rw [e]; exact List.mem_cons_self ..
    · exact List.mem_cons_of_mem _ (mem_run g hs hd asc.2 (fun e he => gt e (List.mem_cons_of_mem _ he)) (fun e he => mem e (List.mem_cons_of_mem _ he)) h ht)

/-! ### how far -/
theorem leapsR_ge {ps gs : List Int} {s L : Int} : ∀ (k : Nat) (d : Int) (rest : List Int), Line ps gs s d rest → vw ps s d ≤ vw ps s (lastD d (leapsR ps L k d rest))
  | 0, d, rest, _ => Int.le_refl _
  | k + 1, d, rest, l => by
    unfold leapsR
    cases h : (run ps L d rest).getLast? with
    | none => exact Int.le_refl _
    | some m =>
      obtain ⟨l', hm, _⟩ := line_step l h
      have ih := leapsR_ge (L := L) k m _ l'
      have := l.gt m hm
      show vw ps s d ≤ vw ps s (lastD m _)
      omega
def chain (ps : List Int) (s L : Int) : Int → List Int → Prop
  | _, [] => True
  | a, t :: ts => vw ps s t - a ≤ L ∧ chain ps s L (vw ps s t) ts
def lastV (ps : List Int) (s : Int) : Int → List Int → Int
  | a, [] => a
  | _, t :: ts => lastV ps s (vw ps s t) ts
theorem lastV_eq (ps : List Int) (s : Int) : ∀ (ts : List Int) (d : Int), lastV ps s (vw ps s d) ts = vw ps s (lastD d ts)
  | [], _ => rfl
  | t :: ts, _ => lastV_eq ps s ts t
theorem reach {ps gs : List Int} {s L : Int} (g : Good ps gs) (hs : s ∈ gs) : ∀ (ts : List Int) (k : Nat) (d : Int) (rest : List Int) (a : Int), d ∈ gs → Line ps gs s d rest → a ≤ vw ps s d → chain ps s L a ts → (∀ t ∈ ts, t ∈ gs) → ts.length ≤ k →
    lastV ps s a ts ≤ vw ps s (lastD d (leapsR ps L k d rest))
  | [], k, d, rest, a, _, l, ha, _, _, _ => Int.le_trans ha (leapsR_ge k d rest l)
  | t :: ts, k, d, rest, a, hd, l, ha, hc, ht, hk => by
    obtain ⟨c1, c2⟩ := hc
    have htg := ht t (List.mem_cons_self ..)
    have hts : ∀ x ∈ ts, x ∈ gs := fun x hx => ht x (List.mem_cons_of_mem _ hx)
    rw [List.length_cons] at hk
    by_cases q : vw ps s t ≤ vw ps s d
    · exact reach g hs ts k d rest _ hd l q c2 hts (by omega)
    · have htr := l.all t htg (by omega)
      have wt := way_line g.pos (g.inn hs) (g.inn hd) (g.inn htg) (show vw ps s d < vw ps s t by omega)
      have hr : t ∈ run ps L d rest := mem_run g hs hd l.asc l.gt l.mem htr (by omega)
      cases k with
      | zero => omega
      | succ k =>
        unfold leapsR
        cases h : (run ps L d rest).getLast? with
        | none =>
          have := List.getLast?_eq_none_iff.mp h
          rw [this] at hr
          cases hr
        | some m =>
          obtain ⟨l', hm, hmax⟩ := line_step l h
          exact reach g hs ts k m _ _ (l.mem m hm) l' (hmax t hr) c2 hts (by omega)

/-! ### neighbours -/
def prs (a : Int) : List Int → Int → List (Int × Int)
  | [], z => [(a, z)]
  | b :: l, z => (a, b) :: prs b l z
theorem prs_append : ∀ (l : List Int) (a b : Int) (m : List Int) (z : Int), prs a (l ++ b :: m) z = prs a l b ++ prs b m z
  | [], _, _, _, _ => rfl
  | x :: l, a, b, m, z => congrArg ((a, x) :: ·) (prs_append l x b m z)
theorem prs_len : ∀ (l : List Int) (a z : Int), (prs a l z).length = l.length + 1
  | [], _, _ => rfl
  | b :: l, a, z => by
    show (prs b l z).length + 1 = l.length + 1 + 1
    rw [prs_len l b z]
theorem prs_get : ∀ (l : List Int) (a z : Int) (k : Nat), k ≤ l.length → (prs a l z)[k]? = some ((a :: l).getD k 0, (l ++ [z]).getD k 0)
  | [], a, z, k, h => by
    have : k = 0 := by simpa using h
    subst this
    rfl
  | b :: l, a, z, 0, _ => rfl
  | b :: l, a, z, k + 1, h => prs_get l b z k (by simpa using h)
theorem prs_mem : ∀ (l : List Int) (a z : Int) (p : Int × Int), p ∈ prs a l z → p.1 ∈ a :: l ∧ p.2 ∈ l ++ [z]
  | [], a, z, p, h => by
    rw [List.mem_singleton.mp h]
    exact ⟨List.mem_cons_self .., List.mem_singleton.mpr rfl⟩
  | b :: l, a, z, p, h => by
    rcases List.mem_cons.mp h with e | h
    · rw [e]
      exact ⟨List.mem_cons_self .., List.mem_cons_self ..⟩
    · have ih := prs_mem l b z p h
      exact ⟨List.mem_cons_of_mem _ ih.1, List.mem_cons_of_mem _ ih.2⟩
theorem leapsR_prs {ps : List Int} {L z : Int} : ∀ (k : Nat) (d : Int) (rest : List Int), way ps (lastD d (leapsR ps L k d rest)) z ≤ L → ∀ p ∈ prs d (leapsR ps L k d rest) z, way ps p.1 p.2 ≤ L
  | 0, d, rest, h, p, hp => by
    rw [List.mem_singleton.mp (show p ∈ [(d, z)] from hp)]
    exact h
  | k + 1, d, rest, h, p, hp => by
    unfold leapsR at h hp
    cases e : (run ps L d rest).getLast? with
    | none =>
      rw [e] at h hp
      rw [List.mem_singleton.mp (show p ∈ [(d, z)] from hp)]
      exact h
    | some m =>
      rw [e] at h hp
      have hm : m ∈ run ps L d rest := List.mem_of_getLast? e
      rcases List.mem_cons.mp (show p ∈ (d, m) :: prs m (leapsR ps L k m _) z from hp) with q | q
      · rw [q]
        exact run_le hm
      · exact leapsR_prs k m _ h p q
theorem leapsR_sub {ps : List Int} {L : Int} : ∀ (k : Nat) (d : Int) (rest : List Int), (leapsR ps L k d rest).Sublist rest
  | 0, d, rest => List.nil_sublist _
  | k + 1, d, rest => by
    unfold leapsR
    cases h : (run ps L d rest).getLast? with
    | none => exact List.nil_sublist _
    | some m =>
      have ih := leapsR_sub (ps := ps) (L := L) k m (rest.drop (run ps L d rest).length)
      obtain ⟨l', el⟩ := last_split h
      have hm : [m].Sublist (run ps L d rest) := by
        rw [el]
        exact List.sublist_append_right _ _
      show ([m] ++ leapsR ps L k m _).Sublist rest
      conv => rhs; rw [run_split ps L d rest]
      exact List.Sublist.append hm ih
theorem leapsR_len {ps : List Int} {L : Int} : ∀ (k : Nat) (d : Int) (rest : List Int), (leapsR ps L k d rest).length ≤ k
  | 0, d, rest => Nat.le_refl _
  | k + 1, d, rest => by
    unfold leapsR
    cases h : (run ps L d rest).getLast? with
    | none => exact Nat.zero_le _
    | some m => exact Nat.succ_le_succ (leapsR_len k m _)
end Fw

/-! ## M5 -/
set_option linter.all false
/-! Sets of doors, their costs, the greatest cost of few lanes. -/
namespace Fw
structure IsSet (gs : List Int) (n : Int) (T : List Int) : Prop where
  one : 1 ≤ T.length
  few : (T.length : Int) ≤ n
  mem : ∀ x ∈ T, x ∈ gs
  asc : T.Pairwise (· < ·)
theorem asc_nodup {l : List Int} (h : l.Pairwise (· < ·)) : l.Nodup := h.imp fun {a b} q => by omega
theorem getD_at {l : List Int} {k : Nat} (h : k < l.length) : l.getD k 0 = l[k] := by
  rw [List.getD_eq_getElem?_getD, List.getElem?_eq_getElem h]
  rfl
theorem gaps_prs {ps : List Int} {x : Int} {xs : List Int} (nd : (x :: xs).Nodup) : gaps ps (x :: xs) = (prs x xs x).map fun p => way ps p.1 p.2 := by
  apply List.ext_getElem?
  intro k
  unfold gaps
  rw [List.getElem?_map, List.getElem?_map]
  by_cases hk : k ≤ xs.length
  · rw [List.getElem?_range (show k < (x :: xs).length by rw [List.length_cons]; omega), prs_get xs x x k hk]
    show some (gap ps (x :: xs) (k : Int)) = some (way ps ((x :: xs).getD k 0) ((xs ++ [x]).getD k 0))
    congr 1
    unfold gap
    have hl : (((x :: xs).length : Nat) : Int) = (xs.length : Int) + 1 := by rw [List.length_cons]; omega
    have hk1 : k < (x :: xs).length := by rw [List.length_cons]; omega
    by_cases h1 : xs.length = 0
    · have : xs = [] := List.eq_nil_of_length_eq_zero h1
      subst this
      have : k = 0 := by simpa using hk
      subst this
      rw [if_pos (by rw [hl]; simp)]
      show W ps = way ps x x
      unfold way
      rw [if_pos rfl]
    · rw [if_neg (by rw [hl]; omega), gi_nat]
      by_cases h2 : k + 1 ≤ xs.length
      · have e1 : ((k : Int) + 1) % (((x :: xs).length : Nat) : Int) = ((k + 1 : Nat) : Int) := by
          rw [hl, Int.emod_eq_of_lt (by omega) (by omega)]
          omega
        rw [e1, gi_nat]
        have hk2 : k + 1 < (x :: xs).length := by rw [List.length_cons]; omega
        have e2 : (xs ++ [x]).getD k 0 = (x :: xs).getD (k + 1) 0 := by
          rw [List.getD_eq_getElem?_getD, List.getElem?_append_left (by omega), List.getD_eq_getElem?_getD]
          rfl
        rw [e2]
        unfold way
        rw [if_neg]
        intro e
        rw [getD_at hk1, getD_at hk2] at e
        have := (List.getElem_inj nd).mp e
        omega
      · have ek : k = xs.length := by omega
        have e1 : ((k : Int) + 1) % (((x :: xs).length : Nat) : Int) = 0 := by
          rw [hl, ek, Int.emod_self]
        rw [e1]
        have e2 : (xs ++ [x]).getD k 0 = x := by
          rw [List.getD_eq_getElem?_getD, ek, List.getElem?_append_right (Nat.le_refl _), Nat.sub_self]
          rfl
        have e3 : gi (x :: xs) 0 = x := rfl
        rw [e2, e3]
        unfold way
        rw [if_neg]
        intro e
        rw [getD_at hk1] at e
        have e4 : (x :: xs)[k] = (x :: xs)[0] := e
        have := (List.getElem_inj nd).mp e4
        omega
  · rw [List.getElem?_eq_none (by rw [List.length_range, List.length_cons]; omega), List.getElem?_eq_none (by rw [prs_len]; omega)]
    rfl
theorem cost_ge {ps : List Int} {x : Int} {xs : List Int} {L : Int} (nd : (x :: xs).Nodup) (h : ∀ p ∈ prs x xs x, way ps p.1 p.2 ≤ L) : W ps - L ≤ cost ps (x :: xs) := by
  unfold cost
  have hm := maxL_mem (gaps_ne (ps := ps) (List.cons_ne_nil x xs))
  rw [gaps_prs nd] at hm ⊢
  obtain ⟨p, hp, e⟩ := List.mem_map.mp hm
  have := h p hp
  omega
theorem cost_le {ps : List Int} {x : Int} {xs : List Int} {L : Int} (nd : (x :: xs).Nodup) (h : W ps - L ≤ cost ps (x :: xs)) : ∀ p ∈ prs x xs x, way ps p.1 p.2 ≤ L := fun p hp => by
  unfold cost at h
  rw [gaps_prs nd] at h
  have := maxL_ge (List.mem_map.mpr ⟨p, hp, rfl⟩ : way ps p.1 p.2 ∈ (prs x xs x).map fun p => way ps p.1 p.2)
  omega
/-- a cost is the way from one of its doors to another -/
theorem cost_far {ps gs T : List Int} {n : Int} (g : Good ps gs) (t : IsSet gs n T) : ∃ a ∈ gs, ∃ b ∈ gs, cost ps T = far ps a b := by
  cases T with
  | nil => exact absurd t.one (by decide)
  | cons x xs =>
    have nd := asc_nodup t.asc
    have hm := maxL_mem (gaps_ne (ps := ps) (List.cons_ne_nil x xs))
    unfold cost
    rw [gaps_prs nd] at hm ⊢
    obtain ⟨p, hp, e⟩ := List.mem_map.mp hm
    rw [← e]
    have q := prs_mem xs x x p hp
    have h1 : p.1 ∈ gs := t.mem _ q.1
    have h2 : p.2 ∈ gs := by
      rcases List.mem_append.mp q.2 with z | z
      · exact t.mem _ (List.mem_cons_of_mem _ z)
      · exact t.mem _ (by rw [List.mem_singleton.mp z]; exact List.mem_cons_self ..)
    refine ⟨p.2, h2, p.1, h1, ?_⟩
    have wb := way_back g.pos (g.inn h2) (g.inn h1)
    unfold vw at wb
    omega
theorem cost_range {ps gs T : List Int} {n : Int} (g : Good ps gs) (t : IsSet gs n T) : 0 ≤ cost ps T ∧ cost ps T < W ps := by
  obtain ⟨a, ha, b, hb, e⟩ := cost_far g t
  rw [e]
  exact far_range g.pos (g.inn ha) (g.inn hb)
theorem prs_chain {ps gs : List Int} {s L z : Int} (g : Good ps gs) (hs : s ∈ gs) : ∀ (l : List Int) (a : Int), a ∈ gs → (∀ x ∈ l, x ∈ gs) → ((a :: l).Pairwise fun x y => vw ps s x < vw ps s y) → (∀ p ∈ prs a l z, way ps p.1 p.2 ≤ L) →
    chain ps s L (vw ps s a) l ∧ way ps (lastD a l) z ≤ L
  | [], a, _, _, _, h => ⟨True.intro, h _ (List.mem_cons_self ..)⟩
  | b :: l, a, ha, hl, asc, h => by
    rw [List.pairwise_cons] at asc
    have hb := hl b (List.mem_cons_self ..)
    have ih := prs_chain g hs l b hb (fun x hx => hl x (List.mem_cons_of_mem _ hx)) asc.2 (fun p hp => h p (List.mem_cons_of_mem _ hp))
    refine ⟨⟨?_, ih.1⟩, ih.2⟩
    have h1 := h (a, b) (List.mem_cons_self ..)
    have h2 := way_line g.pos (g.inn hs) (g.inn ha) (g.inn hb) (asc.1 b (List.mem_cons_self ..))
    have h3 : way ps a b ≤ L := h1
    omega
/-- where a set has no gap beyond L, the leaps from its least door come round -/
theorem complete {ps gs : List Int} {n L x : Int} {xs : List Int} (g : Good ps gs) (t : IsSet gs n (x :: xs)) (h : ∀ p ∈ prs x xs x, way ps p.1 p.2 ≤ L) : way ps (lastD x (leapsR ps L (n - 1).toNat x (ahead gs x))) x ≤ L := by
  have hx := t.mem x (List.mem_cons_self ..)
  have hxs : ∀ y ∈ xs, y ∈ gs := fun y hy => t.mem y (List.mem_cons_of_mem _ hy)
  have asc := t.asc
  rw [List.pairwise_cons] at asc
  have vasc : (x :: xs).Pairwise fun a b => vw ps x a < vw ps x b := by
    rw [List.pairwise_cons]
    refine ⟨fun b hb => ?_, List.Pairwise.imp_of_mem (fun {a b} ha hb hab => ?_) asc.2⟩
    · unfold vw
      rw [far_self]
      exact vw_pos g.pos (g.inn hx) (g.inn (hxs b hb)) (by have := asc.1 b hb; omega)
    · exact vw_up g.pos (g.inn hx) (g.inn (hxs a ha)) (g.inn (hxs b hb)) hab (.inl (asc.1 a ha)) (.inl (Int.le_of_lt (asc.1 a ha)))
  obtain ⟨c, cl⟩ := prs_chain g hx xs x hx hxs vasc h
  have few := t.few
  rw [List.length_cons] at few
  have r := reach (L := L) g hx xs (n - 1).toNat x (ahead gs x) _ hx (line_start g hx) (Int.le_refl _) c hxs (by omega)
  rw [lastV_eq] at r
  have m1 := lastD_mem xs x
  have m2 := lastD_mem (leapsR ps L (n - 1).toNat x (ahead gs x)) x
  have i1 : lastD x xs ∈ gs := t.mem _ m1
  have i2 : lastD x (leapsR ps L (n - 1).toNat x (ahead gs x)) ∈ gs := by
    rcases List.mem_cons.mp m2 with e | m2
    · rw [e]; exact hx
    · exact (line_start g hx).mem _ ((leapsR_sub _ _ _).subset m2)
  have b1 := way_back g.pos (g.inn hx) (g.inn i1)
  have b2 := way_back g.pos (g.inn hx) (g.inn i2)
  omega
/-- leaps that come round make a set without a gap beyond L; sorted, it is that set -/
theorem sound {ps gs T : List Int} {n L s : Int} (g : Good ps gs) (hs : s ∈ gs) (hn : 1 ≤ n) (h : way ps (lastD s (leapsR ps L (n - 1).toNat s (ahead gs s))) s ≤ L) (pm : T.Perm (leapsM ps gs L n s)) (asc : T.Pairwise (· ≤ ·)) :
    IsSet gs n T ∧ W ps - L ≤ cost ps T := by
  have pr := leapsR_prs (ps := ps) (L := L) (z := s) (n - 1).toNat s (ahead gs s) h
  have sub := leapsR_sub (ps := ps) (L := L) (n - 1).toNat s (ahead gs s)
  have len := leapsR_len (ps := ps) (L := L) (n - 1).toNat s (ahead gs s)
  unfold leapsM at pm
  generalize leapsR ps L (n - 1).toNat s (ahead gs s) = f at pr sub len pm
  have e := split_idx hs
  have gasc := g.asc
  rw [e, List.pairwise_append, List.pairwise_cons] at gasc
  obtain ⟨aA, ⟨sB, aB⟩, aAB⟩ := gasc
  unfold ahead at sub
  obtain ⟨fB, fA, rfl, hB, hA⟩ := List.sublist_append_iff.mp sub
  have memA : ∀ x ∈ fA, x ∈ gs := fun x hx => List.mem_of_mem_take (hA.subset hx)
  have memB : ∀ x ∈ fB, x ∈ gs := fun x hx => List.mem_of_mem_drop (hB.subset hx)
  have gA : ∀ x ∈ fA, x < s := fun x hx => aAB x (hA.subset hx) s (List.mem_cons_self ..)
  have gB : ∀ x ∈ fB, s < x := fun x hx => sB x (hB.subset hx)
  have tasc : (fA ++ s :: fB).Pairwise (· < ·) := by
    rw [List.pairwise_append, List.pairwise_cons]
    refine ⟨aA.sublist hA, ⟨gB, aB.sublist hB⟩, fun a ha b hb => ?_⟩
    rcases List.mem_cons.mp hb with q | q
    · rw [q]; exact gA a ha
    · have := gA a ha
      have := gB b q
      omega
  have pm2 : T.Perm (fA ++ s :: fB) := by
    refine pm.trans ?_
    have q : (s :: (fB ++ fA)).Perm (s :: fB ++ fA) := List.Perm.refl _
    exact q.trans List.perm_append_comm
  have eT : T = fA ++ s :: fB := List.Perm.eq_of_pairwise (le := (· ≤ ·)) (fun a b _ _ h1 h2 => by omega) asc (tasc.imp fun {a b} q => by omega) pm2
  subst eT
  refine ⟨⟨?_, ?_, ?_, tasc⟩, ?_⟩
  · rw [List.length_append, List.length_cons]; omega
  · rw [List.length_append] at len
    rw [List.length_append, List.length_cons]
    omega
  · intro x hx
    rcases List.mem_append.mp hx with q | q
    · exact memA x q
    · rcases List.mem_cons.mp q with q | q
      · rw [q]; exact hs
      · exact memB x q
  · cases fA with
    | nil =>
      rw [List.append_nil] at pr
      exact cost_ge (asc_nodup tasc) pr
    | cons a A =>
      refine cost_ge (x := a) (xs := A ++ s :: fB) (asc_nodup tasc) fun p hp => pr p ?_
      rw [prs_append] at hp ⊢
      rcases List.mem_append.mp hp with q | q
      · exact List.mem_append_right _ q
      · exact List.mem_append_left _ q
theorem le_perm (l : List Int) : ∃ T : List Int, T.Perm l ∧ T.Pairwise (· ≤ ·) := by
  refine ⟨l.mergeSort (fun a b => decide (a ≤ b)), List.mergeSort_perm l _, ?_⟩
  have q := List.pairwise_mergeSort (le := fun a b : Int => decide (a ≤ b)) (fun a b c h1 h2 => by simp at h1 h2 ⊢; omega) (fun a b => by simp; omega) l
  exact q.imp fun {a b} h => of_decide_eq_true h
structure Best (ps gs : List Int) (n c : Int) (T : List Int) : Prop where
  set : IsSet gs n T
  cost : cost ps T = c
  top : ∀ U, IsSet gs n U → Fw.cost ps U ≤ c
theorem best_leaps {ps gs T : List Int} {n c : Int} (g : Good ps gs) (hn : 1 ≤ n) (b : Best ps gs n c T) {s : Int} (hs : s ∈ gs) : W ps - c ≤ way ps (lastD s (leapsR ps (W ps - c - 1) (n - 1).toNat s (ahead gs s))) s := by
  by_cases h : W ps - c ≤ way ps (lastD s (leapsR ps (W ps - c - 1) (n - 1).toNat s (ahead gs s))) s
  · exact h
  · obtain ⟨U, h1, h2⟩ := le_perm (leapsM ps gs (W ps - c - 1) n s)
    obtain ⟨q1, q2⟩ := sound g hs hn (by omega) h1 h2
    have := b.top U q1
    omega
/-- a certificate -/
structure Acc (ps gs : List Int) (n : Int) (c : Int) (ds : List Int) (ls : List (List Int)) : Prop where
  set : IsSet gs n ds
  cost : cost ps ds = c
  leaps : ls = gs.map fun s => leapsM ps gs (W ps - c - 1) n s
  back : ∀ s ∈ gs, W ps - c ≤ way ps (lastD s (leapsR ps (W ps - c - 1) (n - 1).toNat s (ahead gs s))) s
theorem best_acc {ps gs T : List Int} {n c : Int} (g : Good ps gs) (hn : 1 ≤ n) (b : Best ps gs n c T) : Acc ps gs n c T (gs.map fun s => leapsM ps gs (W ps - c - 1) n s) :=
  ⟨b.set, b.cost, rfl, fun s hs => best_leaps g hn b hs⟩
end Fw

/-! ## M6 -/
set_option linter.all false
namespace Fw
theorem run_take {ps : List Int} {L d : Int} : ∀ {rest : List Int} {c : Nat}, c ≤ rest.length → (∀ x ∈ rest.take c, way ps d x ≤ L) → (∀ x, rest[c]? = some x → ¬ way ps d x ≤ L) → run ps L d rest = rest.take c
  | [], c, _, _, _ => by simp [run]
  | y :: r, 0, _, _, hs => by
    unfold run
    rw [List.takeWhile_cons, decide_eq_false (hs y rfl)]
    rfl
  | y :: r, c + 1, hc, h, hs => by
    have ih := run_take (rest := r) (c := c) (by simpa using hc) (fun x hx => h x (by rw [List.take_succ_cons]; exact List.mem_cons_of_mem _ hx)) (fun x hx => hs x hx)
    unfold run at ih ⊢
    rw [List.takeWhile_cons, decide_eq_true (h y (by rw [List.take_succ_cons]; exact List.mem_cons_self ..)), List.take_succ_cons, ← ih]
    rfl
theorem leapsR_none {ps : List Int} {L d : Int} {k : Nat} {rest : List Int} (h : run ps L d rest = []) : leapsR ps L k d rest = [] := by
  cases k with
  | zero => rfl
  | succ k =>
    unfold leapsR
    rw [h]
    rfl
theorem leapsR_some {ps : List Int} {L d m : Int} {k : Nat} {rest : List Int} (h : (run ps L d rest).getLast? = some m) : leapsR ps L (k + 1) d rest = m :: leapsR ps L k m (rest.drop (run ps L d rest).length) := by
  conv => lhs; unfold leapsR
  rw [h]
theorem take_last {l : List Int} {c : Nat} {x : Int} (h : l[c]? = some x) : (l.take (c + 1)).getLast? = some x := by
  rw [List.take_add_one, h]
  simp
/-- the state of the leaps: so many are found, so many doors are passed -/
structure Lst (ps gs : List Int) (L n s : Int) (f : List Int) (pas : Nat) : Prop where
  eq : leapsM ps gs L n s = f ++ leapsR ps L (n - (f.length : Int)).toNat (lastD s f) ((ahead gs s).drop pas)
  ne : f ≠ []
  le : pas ≤ (ahead gs s).length
  mem : ∀ x ∈ f, x ∈ gs
  few : f.length ≤ pas + 1
theorem lst_start {ps gs : List Int} {L n s : Int} (hs : s ∈ gs) : Lst ps gs L n s [s] 0 := by
  refine ⟨?_, List.cons_ne_nil _ _, Nat.zero_le _, fun x hx => by rw [List.mem_singleton.mp hx]; exact hs, Nat.le_refl _⟩
  rw [List.drop_zero]
  rfl
theorem lst_full {ps gs : List Int} {L n s : Int} {f : List Int} {pas : Nat} (h : Lst ps gs L n s f pas) (hn : ¬ (f.length : Int) < n) : leapsM ps gs L n s = f := by
  rw [h.eq, show (n - (f.length : Int)).toNat = 0 by omega]
  exact List.append_nil f
theorem lst_stop {ps gs : List Int} {L n s : Int} {f : List Int} {pas : Nat} (h : Lst ps gs L n s f pas) (hr : run ps L (lastD s f) ((ahead gs s).drop pas) = []) : leapsM ps gs L n s = f := by
  rw [h.eq, leapsR_none hr]
  exact List.append_nil f
theorem ahead_mem {gs : List Int} {s x : Int} (h : x ∈ ahead gs s) : x ∈ gs := by
  unfold ahead at h
  rcases List.mem_append.mp h with q | q
  · exact List.mem_of_mem_drop q
  · exact List.mem_of_mem_take q
theorem ahead_len {gs : List Int} {s : Int} (h : s ∈ gs) : (ahead gs s).length + 1 = gs.length := by
  have hl := List.idxOf_lt_length_of_mem h
  unfold ahead
  rw [List.length_append, List.length_drop, List.length_take]
  omega
theorem lst_more {ps gs : List Int} {L n s x : Int} {f : List Int} {pas en : Nat} (h : Lst ps gs L n s f pas) (hn : (f.length : Int) < n) (hp : pas < en) (he : en ≤ (ahead gs s).length)
    (hr : run ps L (lastD s f) ((ahead gs s).drop pas) = ((ahead gs s).drop pas).take (en - pas)) (hx : (ahead gs s)[en - 1]? = some x) : Lst ps gs L n s (f ++ [x]) en := by
  obtain ⟨k, hk⟩ : ∃ k : Nat, (n - (f.length : Int)).toNat = k + 1 := ⟨(n - (f.length : Int)).toNat - 1, by omega⟩
  have el : ((ahead gs s).drop pas)[en - pas - 1]? = some x := by
    rw [List.getElem?_drop, show pas + (en - pas - 1) = en - 1 by omega]
    exact hx
  have lst : (run ps L (lastD s f) ((ahead gs s).drop pas)).getLast? = some x := by
    rw [hr, show en - pas = (en - pas - 1) + 1 by omega]
    exact take_last el
  have ln : (run ps L (lastD s f) ((ahead gs s).drop pas)).length = en - pas := by
    rw [hr, List.length_take, List.length_drop]
    omega
  refine ⟨?_, by simp, he, fun y hy => ?_, ?_⟩
  · rw [h.eq, hk, leapsR_some lst, ln, List.drop_drop, show pas + (en - pas) = en by omega, List.append_assoc]
    rw [show (n - ((f ++ [x]).length : Int)).toNat = k by rw [List.length_append, List.length_singleton]; omega, lastD_append]
    rfl
  · rcases List.mem_append.mp hy with q | q
    · exact h.mem y q
    · rw [List.mem_singleton.mp q]
      exact ahead_mem (List.mem_of_getElem? hx)
  · have := h.few
    rw [List.length_append, List.length_singleton]
    omega
theorem lastD_at : ∀ (f : List Int) (s : Int), f ≠ [] → f.getLast? = some (lastD s f)
  | [], _, h => absurd rfl h
  | x :: l, _, _ => lastD_getLast l x
end Fw

/-! ## M7 -/
set_option linter.all false
/-! The search for the greatest cost. -/
namespace Fw
structure Srch (ps gs : List Int) (n : Int) (cs : List Int) (lo hi : Nat) (T : List Int) : Prop where
  le : lo ≤ hi
  lt : hi < cs.length
  set : IsSet gs n T
  ge : gi cs (lo : Int) ≤ cost ps T
  top : ∀ U, IsSet gs n U → ∃ i, i ≤ hi ∧ cs[i]? = some (cost ps U)
theorem asc_at {cs : List Int} (h : cs.Pairwise (· < ·)) {i j : Nat} {x y : Int} (hi : cs[i]? = some x) (hj : cs[j]? = some y) (hx : x < y) : i < j := by
  obtain ⟨a1, e1⟩ := List.getElem?_eq_some_iff.mp hi
  obtain ⟨a2, e2⟩ := List.getElem?_eq_some_iff.mp hj
  by_cases q : i < j
  · exact q
  · exfalso
    by_cases e : i = j
    · subst e
      rw [e1] at e2
      omega
    · have := List.pairwise_iff_getElem.mp h j i a2 a1 (by omega)
      omega
theorem asc_le {cs : List Int} (h : cs.Pairwise (· < ·)) {i j : Nat} {x y : Int} (hi : cs[i]? = some x) (hj : cs[j]? = some y) (hij : i ≤ j) : x ≤ y := by
  by_cases q : y < x
  · have := asc_at h hj hi q
    omega
  · omega
theorem one_set {gs : List Int} {n x : Int} (hn : 1 ≤ n) (hx : x ∈ gs) : IsSet gs n [x] := ⟨Nat.le_refl _, by simpa using hn, fun y hy => by rw [List.mem_singleton.mp hy]; exact hx, List.pairwise_singleton _ _⟩
theorem srch_start {ps gs cs : List Int} {n x : Int} (g : Good ps gs) (hn : 1 ≤ n) (asc : cs.Pairwise (· < ·)) (mem : ∀ k, k ∈ cs ↔ ∃ a ∈ gs, ∃ b ∈ gs, k = far ps a b) (hx : x ∈ gs) : 0 < cs.length ∧ Srch ps gs n cs 0 (cs.length - 1) [x] := by
  have all : ∀ U, IsSet gs n U → ∃ i, i < cs.length ∧ cs[i]? = some (cost ps U) := fun U hU => by
    obtain ⟨a, ha, b, hb, e⟩ := cost_far g hU
    obtain ⟨i, hi⟩ := List.getElem?_of_mem ((mem _).mpr ⟨a, ha, b, hb, e⟩)
    exact ⟨i, (List.getElem?_eq_some_iff.mp hi).1, hi⟩
  have s1 := one_set hn hx
  obtain ⟨i, h1, h2⟩ := all _ s1
  have hpos : 0 < cs.length := by omega
  refine ⟨hpos, ⟨Nat.zero_le _, by omega, s1, ?_, fun U hU => ?_⟩⟩
  · have e0 : cs[0]? = some (gi cs 0) := gi_get (i := 0) (by omega) (by omega)
    exact asc_le asc e0 h2 (Nat.zero_le _)
  · obtain ⟨j, h3, h4⟩ := all U hU
    exact ⟨j, by omega, h4⟩
theorem srch_none {ps gs cs T : List Int} {n : Int} {lo hi mid : Nat} (asc : cs.Pairwise (· < ·)) (s : Srch ps gs n cs lo hi T) (h1 : lo < mid) (h2 : mid ≤ hi) (h : ∀ U, IsSet gs n U → cost ps U < gi cs (mid : Int)) : Srch ps gs n cs lo (mid - 1) T := by
  have l := s.lt
  refine ⟨by omega, by omega, s.set, s.ge, fun U hU => ?_⟩
  obtain ⟨i, hi, e⟩ := s.top U hU
  have em : cs[mid]? = some (gi cs (mid : Int)) := by
    have := gi_get (xs := cs) (i := (mid : Int)) (by omega) (by omega)
    rw [Int.toNat_natCast] at this
    exact this
  have := asc_at asc e em (h U hU)
  exact ⟨i, by omega, e⟩
theorem srch_some {ps gs cs T T' : List Int} {n : Int} {lo hi mid : Nat} (s : Srch ps gs n cs lo hi T) (h2 : mid ≤ hi) (hs : IsSet gs n T') (h : gi cs (mid : Int) ≤ cost ps T') : Srch ps gs n cs mid hi T' :=
  ⟨h2, s.lt, hs, h, s.top⟩
theorem srch_end {ps gs cs T : List Int} {n : Int} {lo hi : Nat} (asc : cs.Pairwise (· < ·)) (s : Srch ps gs n cs lo hi T) (h : ¬ lo < hi) : Best ps gs n (gi cs (lo : Int)) T := by
  have le := s.le
  have l := s.lt
  have e : lo = hi := by omega
  subst e
  have em : cs[lo]? = some (gi cs (lo : Int)) := by
    have := gi_get (xs := cs) (i := (lo : Int)) (by omega) (by omega)
    rw [Int.toNat_natCast] at this
    exact this
  have top : ∀ U, IsSet gs n U → cost ps U ≤ gi cs (lo : Int) := fun U hU => by
    obtain ⟨i, hi, e⟩ := s.top U hU
    exact asc_le asc e em hi
  have := top T s.set
  have := s.ge
  exact ⟨s.set, by omega, top⟩
/-- no set costs so much if from no door the leaps come round -/
theorem choice_none {ps gs : List Int} {n c : Int} (g : Good ps gs) (h : ∀ s ∈ gs, ¬ way ps (lastD s (leapsR ps (W ps - c) (n - 1).toNat s (ahead gs s))) s ≤ W ps - c) : ∀ U, IsSet gs n U → cost ps U < c := fun U hU => by
  by_cases q : cost ps U < c
  · exact q
  · exfalso
    cases U with
    | nil => exact absurd hU.one (by decide)
    | cons x xs =>
      refine h x (hU.mem x (List.mem_cons_self ..)) (complete g hU (cost_le (asc_nodup hU.asc) ?_))
      omega
theorem choice_some {ps gs T : List Int} {n c s : Int} (g : Good ps gs) (hs : s ∈ gs) (hn : 1 ≤ n) (h : way ps (lastD s (leapsR ps (W ps - c) (n - 1).toNat s (ahead gs s))) s ≤ W ps - c) (pm : T.Perm (leapsM ps gs (W ps - c) n s)) (asc : T.Pairwise (· ≤ ·)) : IsSet gs n T ∧ c ≤ cost ps T := by
  obtain ⟨h1, h2⟩ := sound g hs hn h pm asc
  exact ⟨h1, by omega⟩
theorem leapsM_mem {ps gs : List Int} {L n s : Int} (hs : s ∈ gs) : ∀ x ∈ leapsM ps gs L n s, x ∈ gs := fun x hx => by
  unfold leapsM at hx
  rcases List.mem_cons.mp hx with e | hx
  · rw [e]; exact hs
  · exact ahead_mem ((leapsR_sub _ _ _).subset hx)
theorem leapsM_len {ps gs : List Int} {L n s : Int} (hs : s ∈ gs) : (leapsM ps gs L n s).length ≤ gs.length := by
  have := (leapsR_sub (ps := ps) (L := L) (n - 1).toNat s (ahead gs s)).length_le
  have := ahead_len hs
  unfold leapsM
  rw [List.length_cons]
  omega
end Fw

/-! ## M8 -/
set_option linter.all false
namespace Fw
theorem isset_of {gs ch : List Int} {n : Int} (h1 : 1 ≤ ch.length) (h2 : (ch.length : Int) ≤ n) (h : ∀ k x, ch[k]? = some x → x ∈ gs ∧ ∀ y, 0 < k → ch[k - 1]? = some y → y < x) : IsSet gs n ch := by
  refine ⟨h1, h2, fun x hx => ?_, ?_⟩
  · obtain ⟨k, hk⟩ := List.getElem?_of_mem hx
    exact (h k x hk).1
  · rw [List.pairwise_iff_getElem]
    have adj : ∀ k (hk : k + 1 < ch.length), ch[k] < ch[k + 1] := fun k hk => (h (k + 1) _ (List.getElem?_eq_getElem hk)).2 _ (Nat.succ_pos k) (List.getElem?_eq_getElem (show k < ch.length by omega))
    intro i j hi hj hij
    have go : ∀ d (hd : i + d + 1 < ch.length), ch[i] < ch[i + d + 1] := by
      intro d
      induction d with
      | zero => intro hd; exact adj i hd
      | succ d ih =>
        intro hd
        exact Int.lt_trans (ih (by omega)) (adj (i + d + 1) hd)
    have := go (j - i - 1) (by omega)
    have e : i + (j - i - 1) + 1 = j := by omega
    simpa [e] using this
theorem isset_at {gs ch : List Int} {n : Int} (s : IsSet gs n ch) {k : Nat} {x : Int} (hx : ch[k]? = some x) : x ∈ gs ∧ ∀ y, 0 < k → ch[k - 1]? = some y → y < x := by
  refine ⟨s.mem x (List.mem_of_getElem? hx), fun y hk hy => ?_⟩
  obtain ⟨a1, e1⟩ := List.getElem?_eq_some_iff.mp hx
  obtain ⟨a2, e2⟩ := List.getElem?_eq_some_iff.mp hy
  rw [← e1, ← e2]
  exact List.pairwise_iff_getElem.mp s.asc (k - 1) k a2 a1 (by omega)
theorem map_of {gs : List Int} {ls : List (List Int)} {f : Int → List Int} (hl : ls.length = gs.length) (h : ∀ (k : Nat) (s : Int) (l : List Int), gs[k]? = some s → ls[k]? = some l → l = f s) : ls = gs.map f := by
  apply List.ext_getElem?
  intro k
  rw [List.getElem?_map]
  cases hs : gs[k]? with
  | none =>
    have := List.getElem?_eq_none_iff.mp hs
    rw [List.getElem?_eq_none (by omega)]
    rfl
  | some s =>
    have hk := (List.getElem?_eq_some_iff.mp hs).1
    have hlk : ls[k]? = some ls[k] := List.getElem?_eq_getElem (by omega)
    rw [hlk]
    exact congrArg some (h k s _ hs hlk)
theorem flat_map (f : Int → Int → Int) (ys : List Int) {β : Type} (c : Int → β) (g : β → β → β) (hg : ∀ a b, g (c a) (c b) = c (f a b)) : ∀ xs : List Int, (xs.map c).flatMap (fun x => (ys.map c).map (g x)) = (xs.flatMap fun a => ys.map (f a)).map c
  | [] => rfl
  | x :: xs => by
    have ih := flat_map f ys c g hg xs
    rw [List.map_cons, List.flatMap_cons, List.flatMap_cons, List.map_append, ih, List.map_map, List.map_map]
    congr 1
    exact List.map_congr_left fun b _ => hg x b
end Fw

/-! ## M9 -/
set_option linter.all false
/-! The leaps as the law finds them: the farthest door that is near enough. -/
namespace Fw
structure LSt (ps gs : List Int) (L n s : Int) (f rest : List Int) : Prop where
  eq : leapsM ps gs L n s = f ++ leapsR ps L (n - (f.length : Int)).toNat (lastD s f) rest
  ne : f ≠ []
  line : Line ps gs s (lastD s f) rest
  mem : ∀ x ∈ f, x ∈ gs
  len : f.length + rest.length ≤ gs.length
theorem ls_start {ps gs : List Int} {L n s : Int} (g : Good ps gs) (hs : s ∈ gs) : LSt ps gs L n s [s] (ahead gs s) := by
  refine ⟨rfl, List.cons_ne_nil _ _, line_start g hs, fun x hx => by rw [List.mem_singleton.mp hx]; exact hs, ?_⟩
  have := ahead_len hs
  rw [List.length_singleton]
  omega
theorem LSt.last {ps gs : List Int} {L n s : Int} {f rest : List Int} (h : LSt ps gs L n s f rest) : lastD s f ∈ gs := by
  refine h.mem _ ?_
  have := lastD_at f s h.ne
  exact List.mem_of_getLast? this
theorem ls_stop {ps gs : List Int} {L n s : Int} {f rest : List Int} (h : LSt ps gs L n s f rest) (hr : run ps L (lastD s f) rest = []) : leapsM ps gs L n s = f := by
  rw [h.eq, leapsR_none hr]
  exact List.append_nil f
theorem ls_full {ps gs : List Int} {L n s : Int} {f rest : List Int} (h : LSt ps gs L n s f rest) (hn : n ≤ (f.length : Int) ∨ gs.length ≤ f.length) : leapsM ps gs L n s = f := by
  rcases hn with hn | hn
  · rw [h.eq, show (n - (f.length : Int)).toNat = 0 by omega]
    exact List.append_nil f
  · have := h.len
    have e : rest = [] := List.length_eq_zero_iff.mp (by omega)
    exact ls_stop h (by rw [e]; rfl)
theorem ls_more {ps gs : List Int} {L n s m : Int} {f rest : List Int} (h : LSt ps gs L n s f rest) (hn : (f.length : Int) < n) (hm : (run ps L (lastD s f) rest).getLast? = some m) : LSt ps gs L n s (f ++ [m]) (rest.drop (run ps L (lastD s f) rest).length) := by
  obtain ⟨k, hk⟩ : ∃ k : Nat, (n - (f.length : Int)).toNat = k + 1 := ⟨(n - (f.length : Int)).toNat - 1, by omega⟩
  obtain ⟨l1, l2, l3⟩ := line_step h.line hm
  have hne : 0 < (run ps L (lastD s f) rest).length := by
    obtain ⟨l', e⟩ := last_split hm
    rw [e, List.length_append, List.length_singleton]
    omega
  refine ⟨?_, by simp, ?_, fun x hx => ?_, ?_⟩
  · rw [h.eq, hk, leapsR_some hm, List.append_assoc, lastD_append]
    rw [show (n - ((f ++ [m]).length : Int)).toNat = k by rw [List.length_append, List.length_singleton]; omega]
    rfl
  · rw [lastD_append]
    exact l1
  · rcases List.mem_append.mp hx with q | q
    · exact h.mem x q
    · rw [List.mem_singleton.mp q]
      exact h.line.mem m l2
  · have := h.len
    have h2 := run_split ps L (lastD s f) rest
    have h3 : rest.length = (run ps L (lastD s f) rest).length + (rest.drop (run ps L (lastD s f) rest).length).length := by
      conv => lhs; rw [h2]
      rw [List.length_append]
    rw [List.length_append, List.length_singleton]
    omega
/-- the best so far -/
structure Pick (ps gs : List Int) (d en : Int) (seen : List Int) (reach best : Int) : Prop where
  nn : 0 ≤ reach
  top : ∀ x ∈ seen, far ps d x < en → far ps d x ≤ reach
  got : reach = 0 ∨ (best ∈ gs ∧ far ps d best = reach ∧ reach < en)
theorem pick_start (ps gs : List Int) (d en : Int) : Pick ps gs d en [] 0 d := ⟨Int.le_refl 0, fun x hx => (nomatch hx), .inl rfl⟩
theorem pick_take {ps gs : List Int} {d en reach best x : Int} {seen : List Int} (p : Pick ps gs d en seen reach best) (hx : x ∈ gs) (h1 : reach < far ps d x) (h2 : far ps d x < en) : Pick ps gs d en (seen ++ [x]) (far ps d x) x := by
  have n := p.nn
  refine ⟨by omega, fun y hy hv => ?_, .inr ⟨hx, rfl, h2⟩⟩
  rcases List.mem_append.mp hy with q | q
  · have := p.top y q hv
    omega
  · rw [List.mem_singleton.mp q]
    exact Int.le_refl _
theorem pick_pass {ps gs : List Int} {d en reach best x : Int} {seen : List Int} (p : Pick ps gs d en seen reach best) (h : ¬ (reach < far ps d x ∧ far ps d x < en)) : Pick ps gs d en (seen ++ [x]) reach best := by
  refine ⟨p.nn, fun y hy hv => ?_, p.got⟩
  rcases List.mem_append.mp hy with q | q
  · exact p.top y q hv
  · rw [List.mem_singleton.mp q] at hv ⊢
    omega
theorem vw_lt {ps : List Int} (hp : Pos ps) {s e : Int} (hs : In ps s) (he : In ps e) : vw ps s e < W ps := (far_range hp hs he).2
theorem way_far {ps : List Int} {s d e : Int} (h : vw ps s d < vw ps s e) : way ps d e = far ps d e := by
  have : d ≠ e := fun q => by rw [q] at h; exact absurd h (Int.lt_irrefl _)
  exact if_neg this
theorem pick_none {ps gs rest : List Int} {s d c best : Int} (g : Good ps gs) (hs : s ∈ gs) (hd : d ∈ gs) (l : Line ps gs s d rest) (p : Pick ps gs d (min (way ps d s) (W ps - c)) gs 0 best) : run ps (W ps - c - 1) d rest = [] := by
  cases e : run ps (W ps - c - 1) d rest with
  | nil => rfl
  | cons y r =>
    exfalso
    have hy : y ∈ run ps (W ps - c - 1) d rest := by rw [e]; exact List.mem_cons_self ..
    have h1 := run_le hy
    have hyr : y ∈ rest := by
      rw [run_split ps (W ps - c - 1) d rest]
      exact List.mem_append_left _ hy
    have gt := l.gt y hyr
    have wf := way_far gt
    have wl := way_line g.pos (g.inn hs) (g.inn hd) (g.inn (l.mem y hyr)) gt
    have wb := way_back g.pos (g.inn hs) (g.inn hd)
    have lt := vw_lt g.pos (g.inn hs) (g.inn (l.mem y hyr))
    have := p.top y (l.mem y hyr) (by omega)
    omega
theorem pick_some {ps gs rest : List Int} {s d c reach best : Int} (g : Good ps gs) (hs : s ∈ gs) (hd : d ∈ gs) (l : Line ps gs s d rest) (p : Pick ps gs d (min (way ps d s) (W ps - c)) gs reach best) (h0 : reach ≠ 0) : (run ps (W ps - c - 1) d rest).getLast? = some best := by
  obtain ⟨hb, hf, hlt⟩ : best ∈ gs ∧ far ps d best = reach ∧ reach < min (way ps d s) (W ps - c) := by
    rcases p.got with q | q
    · exact absurd q h0
    · exact q
  have nn := p.nn
  have wb := way_back g.pos (g.inn hs) (g.inn hd)
  have gt : vw ps s d < vw ps s best := by
    by_cases q : vw ps s best ≤ vw ps s d
    · rcases mod_behind g.pos (g.inn hs) (g.inn hd) (g.inn hb) q with e | e
      · rw [e, far_self] at hf
        omega
      · omega
    · omega
  have hr := l.all best hb gt
  have wf := way_far gt
  have hbr := mem_run g hs hd l.asc l.gt l.mem hr (L := W ps - c - 1) (by omega)
  cases e : (run ps (W ps - c - 1) d rest).getLast? with
  | none =>
    rw [List.getLast?_eq_none_iff.mp e] at hbr
    cases hbr
  | some m =>
    obtain ⟨l1, l2, l3⟩ := line_step l e
    obtain ⟨l', el⟩ := last_split e
    have hm : m ∈ run ps (W ps - c - 1) d rest := by rw [el]; exact List.mem_append_right _ (List.mem_singleton.mpr rfl)
    have gm := l.gt m l2
    have wm := way_far gm
    have wlm := way_line g.pos (g.inn hs) (g.inn hd) (g.inn (l.mem m l2)) gm
    have wlb := way_line g.pos (g.inn hs) (g.inn hd) (g.inn hb) gt
    have lm := vw_lt g.pos (g.inn hs) (g.inn (l.mem m l2))
    have rm := run_le hm
    have top := p.top m (l.mem m l2) (by omega)
    have le := l3 best hbr
    have asc := l.asc
    rw [run_split ps (W ps - c - 1) d rest, List.pairwise_append, el, List.pairwise_append] at asc
    rw [el] at hbr
    rcases List.mem_append.mp hbr with q | q
    · have := asc.1.2.2 best q m (List.mem_singleton.mpr rfl)
      omega
    · rw [List.mem_singleton.mp q]
end Fw

/-! ## M10 -/
set_option linter.all false
/-! Sets of doors by their codes. -/
namespace Fw
def subM : List Int → Int → List Int
  | [], _ => []
  | g :: gs, r => (if r % 2 = 1 then [g] else []) ++ subM gs (r / 2)
def halves : Nat → Int → Int
  | 0, r => r
  | n + 1, r => halves n (r / 2)
theorem halves_succ : ∀ (n : Nat) (r : Int), halves (n + 1) r = halves n r / 2
  | 0, r => rfl
  | n + 1, r => by
    show halves (n + 1) (r / 2) = halves n (r / 2) / 2
    exact halves_succ n (r / 2)
theorem sub_snoc (x : Int) : ∀ (l : List Int) (r : Int), subM (l ++ [x]) r = subM l r ++ (if halves l.length r % 2 = 1 then [x] else [])
  | [], r => by simp [subM, halves]
  | y :: l, r => by
    show (if r % 2 = 1 then [y] else []) ++ subM (l ++ [x]) (r / 2) = ((if r % 2 = 1 then [y] else []) ++ subM l (r / 2)) ++ _
    rw [sub_snoc x l (r / 2), List.append_assoc]
    rfl
theorem sub_sub : ∀ (l : List Int) (r : Int), (subM l r).Sublist l
  | [], _ => List.Sublist.refl _
  | x :: l, r => by
    have ih := sub_sub l (r / 2)
    unfold subM
    by_cases h : r % 2 = 1
    · rw [if_pos h]
      exact ih.cons₂ x
    · rw [if_neg h]
      exact ih.cons x
theorem sub_take {l : List Int} {i : Nat} {x r : Int} (h : l[i]? = some x) : subM (l.take (i + 1)) r = subM (l.take i) r ++ (if halves i r % 2 = 1 then [x] else []) := by
  have hi := (List.getElem?_eq_some_iff.mp h).1
  rw [List.take_add_one, h]
  show subM (l.take i ++ [x]) r = _
  rw [sub_snoc, List.length_take, Nat.min_eq_left (Nat.le_of_lt hi)]
theorem sub_ne : ∀ (l : List Int) (r : Int), 1 ≤ r → r < 2 ^ l.length → subM l r ≠ []
  | [], r, h1, h2 => by
    have : r < 1 := h2
    omega
  | x :: l, r, h1, h2 => by
    unfold subM
    by_cases h : r % 2 = 1
    · rw [if_pos h]
      simp
    · rw [if_neg h]
      have h2' : r < 2 ^ l.length * 2 := by rw [List.length_cons, Int.pow_succ] at h2; exact h2
      exact sub_ne l (r / 2) (by omega) (by omega)
theorem sub_all : ∀ {l T : List Int}, l.Pairwise (· < ·) → T.Pairwise (· < ·) → (∀ x ∈ T, x ∈ l) → ∃ r : Int, 0 ≤ r ∧ r < 2 ^ l.length ∧ subM l r = T
  | [], T, _, _, h => by
    refine ⟨0, by omega, by decide, ?_⟩
    cases T with
    | nil => rfl
    | cons t T => exact absurd (h t (List.mem_cons_self ..)) (by simp)
  | x :: l, T, h1, h2, h => by
    rw [List.pairwise_cons] at h1
    have hp : (2 : Int) ^ (x :: l).length = 2 ^ l.length * 2 := by rw [List.length_cons, Int.pow_succ]
    by_cases hx : x ∈ T
    · cases T with
      | nil => cases hx
      | cons t T =>
        rw [List.pairwise_cons] at h2
        have et : t = x := by
          rcases List.mem_cons.mp (h t (List.mem_cons_self ..)) with e | e
          · exact e
          · have a1 := h1.1 t e
            rcases List.mem_cons.mp hx with e2 | e2
            · exact e2.symm
            · have := h2.1 x e2
              omega
        subst et
        obtain ⟨r, r0, r1, r2⟩ := sub_all h1.2 h2.2 (fun y hy => by
          rcases List.mem_cons.mp (h y (List.mem_cons_of_mem _ hy)) with e | e
          · have := h2.1 y hy
            omega
          · exact e)
        refine ⟨r * 2 + 1, by omega, by omega, ?_⟩
        unfold subM
        rw [if_pos (by omega), show (r * 2 + 1) / 2 = r by omega, r2]
        rfl
    · obtain ⟨r, r0, r1, r2⟩ := sub_all (T := T) h1.2 h2 (fun y hy => by
        rcases List.mem_cons.mp (h y hy) with e | e
        · rw [e] at hy
          exact absurd hy hx
        · exact e)
      refine ⟨r * 2, by omega, by omega, ?_⟩
      unfold subM
      rw [if_neg (by omega), show (r * 2) / 2 = r by omega, r2]
      rfl
theorem set_code {ps gs T : List Int} {n : Int} (g : Good ps gs) (h : IsSet gs n T) : ∃ r : Int, 1 ≤ r ∧ r < 2 ^ gs.length ∧ subM gs r = T := by
  obtain ⟨r, r0, r1, r2⟩ := sub_all g.asc h.asc h.mem
  refine ⟨r, ?_, r1, r2⟩
  by_cases e : r = 0
  · exfalso
    have z : ∀ l : List Int, subM l 0 = [] := fun l => by
      induction l with
      | nil => rfl
      | cons x l ih =>
        unfold subM
        rw [if_neg (by decide), show (0 : Int) / 2 = 0 from rfl, ih]
        rfl
    rw [e, z] at r2
    have := h.one
    rw [← r2] at this
    exact absurd this (by decide)
  · omega
theorem code_set {ps gs : List Int} (g : Good ps gs) {r n : Int} (h1 : 1 ≤ r) (h2 : r < 2 ^ gs.length) (hn : ((subM gs r).length : Int) ≤ n) : IsSet gs n (subM gs r) := by
  have s := sub_sub gs r
  refine ⟨List.length_pos_iff.mpr (sub_ne gs r h1 h2), hn, fun x hx => s.subset hx, g.asc.sublist s⟩
/-- the best by number, behind the codes below m -/
structure Tab (ps gs bs : List Int) (m : Int) : Prop where
  len : bs.length = gs.length + 1
  low : ∀ (k : Nat) (b : Int), bs[k]? = some b → b = 0 ∨ ∃ U, IsSet gs (k : Int) U ∧ cost ps U = b
  top : ∀ (r : Int) (b : Int), 1 ≤ r → r < m → bs[(subM gs r).length]? = some b → cost ps (subM gs r) ≤ b
theorem tab_start (ps gs : List Int) : Tab ps gs (List.replicate (gs.length + 1) 0) 1 :=
  ⟨List.length_replicate, fun k b h => .inl (by
    have := List.mem_of_getElem? h
    exact List.eq_of_mem_replicate this), fun r b h1 h2 => by omega⟩
theorem tab_step {ps gs bs : List Int} {m b : Int} (g : Good ps gs) (t : Tab ps gs bs m) (h1 : 1 ≤ m) (h2 : m < 2 ^ gs.length) (hb : bs[(subM gs m).length]? = some b) :
    Tab ps gs (bs.set (subM gs m).length (max b (cost ps (subM gs m)))) (m + 1) := by
  have hl := (List.getElem?_eq_some_iff.mp hb).1
  refine ⟨by rw [List.length_set]; exact t.len, fun k b' h => ?_, fun r b' r1 r2 h => ?_⟩
  · rw [List.getElem?_set] at h
    by_cases e : (subM gs m).length = k
    · rw [if_pos e, if_pos hl] at h
      cases h
      by_cases q : b ≤ cost ps (subM gs m)
      · rw [Int.max_eq_right q]
        exact .inr ⟨_, code_set g h1 h2 (by omega), rfl⟩
      · rw [Int.max_eq_left (by omega)]
        exact t.low k b (by rw [← e]; exact hb)
    · rw [if_neg e] at h
      exact t.low k b' h
  · rw [List.getElem?_set] at h
    by_cases e : (subM gs m).length = (subM gs r).length
    · rw [if_pos e, if_pos hl] at h
      cases h
      by_cases q : r = m
      · rw [q]
        exact Int.le_max_right ..
      · have := t.top r b r1 (by omega) (by rw [← e]; exact hb)
        exact Int.le_trans this (Int.le_max_left ..)
    · rw [if_neg e] at h
      by_cases q : r = m
      · rw [q] at e
        exact absurd rfl e
      · exact t.top r b' r1 (by omega) h
/-- .. and of at most so many, below the place m -/
structure Tab2 (ps gs bs : List Int) (m : Nat) : Prop where
  len : bs.length = gs.length + 1
  low : ∀ (k : Nat) (b : Int), bs[k]? = some b → b = 0 ∨ ∃ U, IsSet gs (k : Int) U ∧ cost ps U = b
  top : ∀ (k : Nat) (U : List Int) (b : Int), k < m → IsSet gs (k : Int) U → bs[k]? = some b → cost ps U ≤ b
  own : ∀ (U : List Int) (n b : Int), IsSet gs n U → bs[U.length]? = some b → cost ps U ≤ b
theorem tab2_start {ps gs bs : List Int} {m : Int} (g : Good ps gs) (t : Tab ps gs bs m) (hm : 2 ^ gs.length ≤ m) : Tab2 ps gs bs 1 :=
  ⟨t.len, t.low, fun k U b hk h => by
    have h1 := h.one
    have h2 := h.few
    omega, fun U n b h hb => by
    obtain ⟨r, r1, r2, rfl⟩ := set_code g h
    exact t.top r b r1 (by omega) hb⟩
theorem set_up {gs U : List Int} {n m : Int} (h : IsSet gs n U) (hm : n ≤ m) : IsSet gs m U := ⟨h.one, Int.le_trans h.few hm, h.mem, h.asc⟩
theorem tab2_step {ps gs bs : List Int} {m : Nat} {a b : Int} (t : Tab2 ps gs bs (m + 1)) (ha : bs[m]? = some a) (hb : bs[m + 1]? = some b) : Tab2 ps gs (bs.set (m + 1) (max b a)) (m + 2) := by
  have hl := (List.getElem?_eq_some_iff.mp hb).1
  refine ⟨by rw [List.length_set]; exact t.len, fun k b' h => ?_, fun k U b' hk hU h => ?_, fun U n b' hU h => ?_⟩
  · rw [List.getElem?_set] at h
    by_cases e : m + 1 = k
    · rw [if_pos e, if_pos hl] at h
      cases h
      by_cases q : b ≤ a
      · rw [Int.max_eq_right q]
        rcases t.low m a ha with z | ⟨U, u1, u2⟩
        · exact .inl z
        · exact .inr ⟨U, set_up u1 (by omega), u2⟩
      · rw [Int.max_eq_left (by omega)]
        exact t.low k b (by rw [← e]; exact hb)
    · rw [if_neg e] at h
      exact t.low k b' h
  · rw [List.getElem?_set] at h
    by_cases e : m + 1 = k
    · rw [if_pos e, if_pos hl] at h
      cases h
      have h1 := hU.few
      by_cases q : U.length = m + 1
      · have := t.own U _ b hU (by rw [q]; exact hb)
        exact Int.le_trans this (Int.le_max_left ..)
      · have := t.top m U a (Nat.lt_succ_self m) ⟨hU.one, by omega, hU.mem, hU.asc⟩ ha
        exact Int.le_trans this (Int.le_max_right ..)
    · rw [if_neg e] at h
      exact t.top k U b' (by omega) hU h
  · rw [List.getElem?_set] at h
    by_cases e : m + 1 = U.length
    · rw [if_pos e, if_pos hl] at h
      cases h
      have := t.own U n b hU (by rw [← e]; exact hb)
      exact Int.le_trans this (Int.le_max_left ..)
    · rw [if_neg e] at h
      exact t.own U n b' hU h
theorem set_len {ps gs U : List Int} {n : Int} (g : Good ps gs) (h : IsSet gs n U) : U.length ≤ gs.length := by
  obtain ⟨r, _, _, rfl⟩ := set_code g h
  exact (sub_sub gs r).length_le
theorem tab2_end {ps gs bs T : List Int} {m : Nat} {n c : Int} (g : Good ps gs) (hn : 1 ≤ n) (t : Tab2 ps gs bs m) (hm : gs.length + 1 ≤ m) (b : Best ps gs n c T) : gi bs (min n (gs.length : Int)) = c := by
  have hlen := t.len
  obtain ⟨k, hk⟩ : ∃ k : Nat, min n (gs.length : Int) = (k : Int) := ⟨(min n (gs.length : Int)).toNat, by omega⟩
  have hkl : k < bs.length := by omega
  have hb : bs[k]? = some bs[k] := List.getElem?_eq_getElem hkl
  rw [hk, gi_some hb]
  generalize bs[k] = v at hb
  have hT := set_len g b.set
  have f := b.set.few
  have up := t.top k T v (by omega) ⟨b.set.one, by omega, b.set.mem, b.set.asc⟩ hb
  have ec := b.cost
  have r := cost_range g b.set
  have dn : v ≤ c := by
    rcases t.low k v hb with z | ⟨U, u1, u2⟩
    · omega
    · have := b.top U (set_up u1 (by omega))
      omega
  omega
end Fw

/-! ## V1 -/
set_option Elab.async false
set_option linter.all false
set_option maxRecDepth 100000
set_option maxHeartbeats 4000000
/-! A layer of values: what an expression gives, with the heap as it was. -/
namespace Fv
open PySem PySem.Spec PyProof.Rows L2
open Evl (Ex Ex.refl Ex.trans Ex.new fresh_back ex_rd ex_l ex_t)

/-! ### heaps whose tracked objects may be forgotten again -/
/-- what does not lean on other tracked objects -/
def Pl : HO → Prop
  | .lst _ => True
  | .tup _ => True
  | .own _ => True
  | .ext _ => True
  | .frz _ (.tup _) => True
  | _ => False
/-- .. or an instance, a read-only list -/
def Ok1 : HO → Prop
  | .lst _ => True
  | .tup _ => True
  | .own _ => True
  | .ext _ => True
  | .ins _ _ _ => True
  | .frz _ (.lst _) => True
  | .frz _ (.tup _) => True
  | _ => False
theorem ok1_pl {o : HO} (h : Pl o) : Ok1 o := by
  cases o with
  | frz ob u => cases u <;> first | exact True.intro | exact h.elim
  | _ => first | exact True.intro | exact h.elim
def ND (H : Hp) : Prop := ∀ a o, H a = some o → Ok1 o
/-- what is new is plain, or an instance with its own dict -/
def Clo (H H1 : Hp) : Prop := ∀ a o, H a = none → H1 a = some o → Pl o ∨ ∃ C dx fs, o = .ins C dx fs ∧ H1 dx = some (.own a)
theorem Clo.refl (H : Hp) : Clo H H := fun a o h1 h2 => by rw [h1] at h2; cases h2
theorem Clo.new {H : Hp} {p : Addr} {o : HO} (hp : Pl o) : Clo H (upd H p o) := fun a u h1 h2 => by
  by_cases e : a = p
  · subst e
    rw [upd_same] at h2
    cases h2
    exact .inl hp
  · rw [upd_ne e, h1] at h2
    cases h2
theorem nd_only {H : Hp} (h : Only H) : ND H := fun a o e => by
  rcases h a with z | ⟨u, xs, z⟩
  · rw [z] at e; cases e
  · rw [z] at e
    cases e
    exact True.intro
theorem nd_upd {H : Hp} {p : Addr} {o : HO} (h : ND H) (ho : Ok1 o) : ND (upd H p o) := fun a u e => by
  by_cases q : a = p
  · subst q
    rw [upd_same] at e
    cases e
    exact ho
  · rw [upd_ne q] at e
    exact h a u e
theorem nd_lst {H : Hp} {p : Addr} {xs : List V} (h : ND H) : ND (upd H p (.lst xs)) := nd_upd h True.intro
theorem nd_tup {H : Hp} {p : Addr} {xs : List V} (h : ND H) : ND (upd H p (.tup xs)) := nd_upd h True.intro
theorem nd_clo {H H1 : Hp} (h : ND H) (e : Ex H H1) (c : Clo H H1) : ND H1 := fun a o q => by
  cases r : H a with
  | none =>
    rcases c a o r q with z | ⟨C, dx, fs, rfl, _⟩
    · exact ok1_pl z
    · exact True.intro
  | some u =>
    rw [e a u r] at q
    cases q
    exact h a _ r

theorem forget_obj {P : Program} {w : World} {H1 H2 : Hp} {h : Heap} {a : Addr} {o : HO} (ok : Ok1 o) (x : ObjOk P w H2 h a o) (k : ∀ C dx fs, o = .ins C dx fs → H1 dx = some (.own a)) : ObjOk P w H1 h a o := by
  cases o with
  | lst xs => exact x
  | tup xs => exact x
  | own y => exact x
  | ext φ => exact x
  | ins C dx fs => exact ⟨k C dx fs rfl, x.2⟩
  | frz ob u =>
    cases u with
    | lst xs => exact x
    | tup xs => exact x
    | _ => exact ok.elim
  | _ => exact ok.elim
/-- behind a call: what is new and not wanted is forgotten -/
theorem fix {P : Program} {w : World} {K : PySem.W.Frag} {mg : Str → Option Value} {base : Heap} {k : Nat} {f : Addr} {fd : FuncData} {ps : List Str} {sp sp' : Sp} (F : FnOk P w K mg base CX0 k f fd ps sp)
    (h : ∀ vs H Q E, sp' vs H Q E → ND H ∧ sp vs H (fun v H2 => ∃ H1, Ex H H1 ∧ Ex H1 H2 ∧ Clo H H1 ∧ Q v H1) E) : FnOk P w K mg base CX0 k f fd ps sp' := by
  refine ⟨fun vs H Q E q => F.len vs H _ E (h _ _ _ _ q).2, fun A outer s H args us vs Q E hr he hb hv hs => ?_⟩
  obtain ⟨nd, hs⟩ := h _ _ _ _ hs
  refine codeAny_mono (F.run A outer s H args us vs _ E hr he hb hv hs) fun r s' hq => ?_
  cases r with
  | error e => exact hq
  | ok fl =>
    cases fl with
    | next => exact hq
    | brk => exact hq
    | cont => exact hq
    | ret u =>
      obtain ⟨v, H2, os, bare, un, hok, rv, H1, e1, e2, clo, q⟩ := hq
      refine ⟨v, H1, os, bare, ⟨un.keep, un.slot, fun b o e n hx => ?_, un.there, fun b xs e => e1 _ _ e, fun b o u e => e1 _ _ e, fun b ps e => ⟨#[], by rw [e1 _ _ e]; simp⟩⟩, fun a o e => ?_, rv, q⟩
      · exact fresh_back e2 (un.free b o e n hx)
      · refine forget_obj (nd_clo nd e1 clo a o e) (hok a o (e2 a o e)) fun C dx fs eo => ?_
        subst eo
        cases q0 : H a with
        | none =>
          rcases clo a _ q0 e with z | ⟨C', dx', fs', z, z2⟩
          · exact z.elim
          · cases z
            exact z2
        | some u =>
          have := e1 a u q0
          rw [this] at e
          cases e
          exact e1 dx _ (he.hok a _ q0).1
/-- what a body hands back -/
def Rt (H : Hp) (Q : VK) : VK := fun v H2 => ∃ H1, Ex H H1 ∧ Ex H1 H2 ∧ Clo H H1 ∧ Q v H1
theorem rt_val {H H2 : Hp} {Q : VK} {v : V} (e : Ex H H2) (q : Q v H) : Rt H Q v H2 := ⟨H, Ex.refl H, e, Clo.refl H, q⟩
theorem rt_new {H H2 : Hp} {Q : VK} {p : Addr} {o : HO} (np : H p = none) (e : Ex H H2) (hp : H2 p = some o) (po : Pl o) (q : Q (.ref p) (upd H p o)) : Rt H Q (.ref p) H2 := by
  refine ⟨upd H p o, Ex.new np, fun a u z => ?_, Clo.new po, q⟩
  by_cases z1 : a = p
  · subst z1
    rw [upd_same] at z
    cases z
    exact hp
  · rw [upd_ne z1] at z
    exact e a u z
theorem rt_any {H H2 : Hp} {Q : VK} {v : V} (e : Ex H H2) (c : Clo H H2) (q : Q v H2) : Rt H Q v H2 := ⟨H2, e, Ex.refl _, c, q⟩
section
variable {P : Program} {w : World} {K : PySem.W.Frag} {mg : Str → Option Value} {base : Heap}
/-- a def that keeps the promise sp, its body read with Rt -/
theorem okF {x qual : Str} {st : Stmt} {f : Addr} {fd : FuncData} {N ps : List Str} {k : Nat} {sp : Sp} (F : Fun K x qual st f fd) (S : FnScope N ps (defScope st)) (nd : ∀ vs H Q E, sp vs H Q E → ND H) (len : ∀ vs H Q E, sp vs H Q E → vs.length = ps.length)
    (body : ∀ (cdv : Value) (A : Around) (outer : List Env) (s : Shared) (H : Hp) (vs : List V) (Q : VK) (E : XK), Room k (A.deeper (envOfC qual (defScope st) s.heap.objs.size f cdv)) → sp vs H Q E →
      ∃ t, PSs (cxOf CX0 P w K mg base N qual (defScope st) f cdv A outer s H E).nox (defBody st) t ∧ t { nx := fun _ H' => Rt H Q .non H', rt := Rt H Q } (start N vs) H) : FnOk P w K mg base CX0 (k + 1) f fd ps sp := by
  refine fix (sp := fun vs H Q' E => ∃ Q, sp vs H Q E ∧ Q' = Rt H Q) (F.ok S (fun vs H Q' E h => ?_) fun cdv A outer s H vs Q' E hr h => ?_) fun vs H Q E h => ⟨nd _ _ _ _ h, Q, h, rfl⟩
  · obtain ⟨Q, h, _⟩ := h
    exact len _ _ _ _ h
  · obtain ⟨Q, h, rfl⟩ := h
    exact body cdv A outer s H vs Q E hr h
end
end Fv

/-! ## V2 -/
set_option Elab.async false
set_option linter.all false
set_option maxRecDepth 100000
set_option maxHeartbeats 4000000
namespace Fv
open PySem PySem.Spec PyProof.Rows L2
open Evl (Ex Ex.refl Ex.trans Ex.new fresh_back ex_rd ex_l ex_t)
open Fw (maxL gi)

/-! ### values, the heap as it was -/
def Val (te : TE) (σ : L2.St) (H : Hp) (v : V) : Prop := ∀ Q : VK, Q v H → te σ H Q
def VAs (ta : TA) (σ : L2.St) (H : Hp) (vs : List V) : Prop := ∀ Q : List V → Hp → Prop, Q vs H → ta σ H Q
def Ans (t : TT) (σ : L2.St) (H : Hp) (b : Bool) : Prop := ∀ Q : Bool → Hp → Prop, Q b H → t σ H Q
/-- a new object -/
def Mkn (te : TE) (σ : L2.St) (H : Hp) (o : HO) : Prop := ∀ Q : VK, (∀ p, H p = none → Q (.ref p) (upd H p o)) → te σ H Q
def RV (r : R2) (x y : V) (H : Hp) (z : V) : Prop := ∀ Q : VK, Q z H → r x y H Q
def RU (r : V → Hp → VK → Prop) (x : V) (H : Hp) (z : V) : Prop := ∀ Q : VK, Q z H → r x H Q
def RC (r : List V → Hp → VK → Prop) (vs : List V) (H : Hp) (z : V) : Prop := ∀ Q : VK, Q z H → r vs H Q
def RCn (r : List V → Hp → VK → Prop) (vs : List V) (H : Hp) (o : HO) : Prop := ∀ Q : VK, (∀ p, H p = none → Q (.ref p) (upd H p o)) → r vs H Q
/-- a promise at work -/
def SV (sp : Sp) (vs : List V) (H : Hp) (z : V) : Prop := ∀ (Q : VK) (E : XK), Q z H → sp vs H Q E
def SN (sp : Sp) (vs : List V) (H : Hp) (o : HO) : Prop := ∀ (Q : VK) (E : XK), (∀ p, H p = none → Q (.ref p) (upd H p o)) → sp vs H Q E

section
variable {K : PySem.W.Frag} {σ : L2.St} {H : Hp} {ta tb tc te : TE} {t u : TT} {x y z v : V} {r r' : R2} {ts : TA} {vs : List V} {o : HO} {a p : Addr} {i j k : Int} {b c : Bool} {xs : List V} {ns : List Int}
theorem va_var {i : Nat} (h : σ[i]? = some (some v)) : Val (tVar i) σ H v := fun _ q => ⟨v, h, q⟩
theorem va_c : Val (tC v) σ H v := fun _ q => q
theorem va_op (ha : Val ta σ H x) (hb : Val tb σ H y) (hr : RV r x y H z) : Val (tOp r ta tb) σ H z := fun Q q => ha _ (hb _ (hr Q q))
theorem va_un {ru : V → Hp → VK → Prop} (ha : Val ta σ H x) (hr : RU ru x H z) : Val (tUn ru ta) σ H z := fun Q q => ha _ (hr Q q)
theorem vs_nil : VAs tNil σ H [] := fun _ q => q
theorem vs_cons (ha : Val ta σ H x) (hr : VAs ts σ H vs) : VAs (tCons ta ts) σ H (x :: vs) := fun _ q => ha _ (hr _ q)
theorem va_cb {rc : List V → Hp → VK → Prop} (ha : VAs ts σ H vs) (hr : RC rc vs H z) : Val (tCB rc ts) σ H z := fun Q q => ha _ (hr Q q)
theorem mk_cb {rc : List V → Hp → VK → Prop} (ha : VAs ts σ H vs) (hr : RCn rc vs H o) : Mkn (tCB rc ts) σ H o := fun Q q => ha _ (hr Q q)
theorem va_call {sp : Sp} {dvs : List V} {E : XK} (ha : VAs ts σ H vs) (hs : SV sp (vs ++ dvs) H z) : Val (tCall sp dvs E ts) σ H z := fun Q q => ha _ (hs Q E q)
theorem mk_call {sp : Sp} {dvs : List V} {E : XK} (ha : VAs ts σ H vs) (hs : SN sp (vs ++ dvs) H o) : Mkn (tCall sp dvs E ts) σ H o := fun Q q => ha _ (hs Q E q)
theorem va_meth {C dx : Addr} {m : Str} {sp : Sp} {dvs : List V} {E : XK} {fs : List (Str × V)} (ho : Val te σ H (.ref a)) (hi : H a = some (.ins C dx fs)) (hm : fs.lookup m = none) (ha : VAs ts σ H vs) (hs : SV sp (.ref a :: (vs ++ dvs)) H z) :
    Val (tMeth C m sp dvs E te ts) σ H z := fun Q q => ho _ ⟨a, dx, fs, rfl, hi, hm, ha _ (hs Q E q)⟩
theorem va_fld {C dx : Addr} {f : Str} {fs : List (Str × V)} (ho : Val te σ H (.ref a)) (hi : H a = some (.ins C dx fs)) (c : Cls K C) (n : NoAttr K C f) (hl : fs.lookup f = some v) : Val (tFld K te f) σ H v :=
  fun Q q => ho _ ⟨a, C, dx, fs, v, rfl, hi, c, n, hl, q⟩
theorem mk_lst (ha : VAs ts σ H vs) (hz : vs.length ≤ 100000) : Mkn (tLst ts) σ H (.lst vs) := fun Q q => ha _ ⟨Nat.le_trans hz (by decide), q⟩
theorem mk_tup (ha : VAs ts σ H vs) (hz : vs.length ≤ 100000) : Mkn (tTup ts) σ H (.tup vs) := fun Q q => ha _ ⟨Nat.le_trans hz (by decide), q⟩
theorem va_is {w : V} (h : Val te σ H v) (e : v = w) : Val te σ H w := e ▸ h
theorem an_is {b' : Bool} (h : Ans t σ H b) (e : b = b') : Ans t σ H b' := e ▸ h

/-! operators -/
theorem rv_I0 {g : Int → Int → V} : RV (rI0 g) (.int i) (.int j) H (g i j) := fun _ q => ⟨i, j, rfl, rfl, q⟩
theorem rv_I {C : Int → Int → Prop} {g : Int → Int → V} (h : C i j) : RV (rI C g) (.int i) (.int j) H (g i j) := fun _ q => ⟨i, j, rfl, rfl, h, q⟩
theorem ru_neg : RU (rU fun i => .int (-i)) (.int i) H (.int (-i)) := fun _ q => ⟨i, rfl, q⟩
theorem dec_int : decide (V.int i = V.int j) = decide (i = j) := by
  by_cases h : i = j
  · rw [h, decide_eq_true rfl, decide_eq_true rfl]
  · rw [decide_eq_false h, decide_eq_false fun q => h (V.int.inj q)]
theorem rv_eqI : RV rEq (.int i) (.int j) H (.bl (decide (i = j))) := fun _ q => ⟨rfl, by rw [dec_int]; exact q⟩
theorem rv_neI : RV rNe (.int i) (.int j) H (.bl (!decide (i = j))) := fun _ q => ⟨rfl, by rw [dec_int]; exact q⟩
theorem inV_ints (k : Int) : ∀ ns : List Int, inV (.int k) (ns.map V.int) = decide (k ∈ ns)
  | [] => by simp [inV]
  | n :: ns => by
    have ih := inV_ints k ns
    unfold inV at ih ⊢
    rw [List.map_cons, List.any_cons, ih]
    show ((n == k) || decide (k ∈ ns)) = decide (k ∈ n :: ns)
    by_cases e : n = k
    · rw [e]; simp
    · have e' : ¬ k = n := fun q => e q.symm
      rw [show (n == k) = false from beq_eq_false_iff_ne.mpr e, Bool.false_or]
      simp [e']
theorem rv_inL (h : SqL K H p (ns.map V.int)) : RV (rIn K false) (.int k) (.ref p) H (.bl (decide (k ∈ ns))) := fun _ q =>
  ⟨p, _, rfl, .inl h, rfl, Fr0.flat_ints ns, by rw [inV_ints]; exact q⟩
theorem rv_inT (h : SqT K H p (ns.map V.int)) : RV (rIn K false) (.int k) (.ref p) H (.bl (decide (k ∈ ns))) := fun _ q =>
  ⟨p, _, rfl, .inr h, rfl, Fr0.flat_ints ns, by rw [inV_ints]; exact q⟩
theorem rv_ninL (h : SqL K H p (ns.map V.int)) : RV (rIn K true) (.int k) (.ref p) H (.bl (!decide (k ∈ ns))) := fun _ q =>
  ⟨p, _, rfl, .inl h, rfl, Fr0.flat_ints ns, by rw [inV_ints]; exact q⟩
theorem rv_ninT (h : SqT K H p (ns.map V.int)) : RV (rIn K true) (.int k) (.ref p) H (.bl (!decide (k ∈ ns))) := fun _ q =>
  ⟨p, _, rfl, .inr h, rfl, Fr0.flat_ints ns, by rw [inV_ints]; exact q⟩
theorem rv_ixL (h : SqL K H p xs) (e : atI xs i = some v) : RV (rIxL K) (.ref p) (.int i) H v := fun _ q => ⟨p, xs, i, v, rfl, rfl, h, e, q⟩
theorem rv_ixT (h : SqT K H p xs) (e : atI xs i = some v) : RV (rIxT K) (.ref p) (.int i) H v := fun _ q => ⟨p, xs, i, v, rfl, rfl, h, e, q⟩
theorem rv_ixSL (h : SqL K H p xs) (e : atI xs i = some v) : RV (rIx K) (.ref p) (.int i) H v := fun _ q => .inl ⟨p, xs, i, v, rfl, rfl, h, e, q⟩
theorem rv_ixST (h : SqT K H p xs) (e : atI xs i = some v) : RV (rIx K) (.ref p) (.int i) H v := fun _ q => .inr (.inl ⟨p, xs, i, v, rfl, rfl, h, e, q⟩)
theorem at_int {n : Nat} {z : Int} (h : ns[n]? = some z) : atI (ns.map V.int) (n : Int) = some (.int z) := atI_nat (by rw [List.getElem?_map, h]; rfl)
theorem at_gi (h0 : 0 ≤ i) (h : i < (ns.length : Int)) : atI (ns.map V.int) i = some (.int (gi ns i)) := by
  have q := at_int (Fw.gi_get h0 h)
  rw [Int.toNat_of_nonneg h0] at q
  exact q
theorem at_nat {n : Nat} (e : i = (n : Int)) (h : xs[n]? = some v) : atI xs i = some v := by
  rw [e]
  exact atI_nat h
theorem at_last {l : List V} {v : V} (h : l.getLast? = some v) : atI l (-1) = some v := by
  obtain ⟨l', rfl⟩ : ∃ l', l = l' ++ [v] := List.getLast?_eq_some_iff.mp h
  exact atI_last l' v

/-! built-ins -/
abbrev kLen (K : PySem.W.Frag) : List V → Hp → VK → Prop := fun xs H Q => ∃ p ys, xs = [.ref p] ∧ (SqL K H p ys ∨ SqT K H p ys) ∧ Q (.int ys.length) H
theorem rc_lenL (h : SqL K H p xs) : RC (kLen K) [.ref p] H (.int (xs.length : Int)) := fun _ q => ⟨p, xs, rfl, .inl h, q⟩
theorem rc_lenT (h : SqT K H p xs) : RC (kLen K) [.ref p] H (.int (xs.length : Int)) := fun _ q => ⟨p, xs, rfl, .inr h, q⟩
theorem rc_lenLI (h : SqL K H p (ns.map V.int)) : RC (kLen K) [.ref p] H (.int (ns.length : Int)) := fun _ q => ⟨p, _, rfl, .inl h, by rw [List.length_map]; exact q⟩
theorem rc_lenTI (h : SqT K H p (ns.map V.int)) : RC (kLen K) [.ref p] H (.int (ns.length : Int)) := fun _ q => ⟨p, _, rfl, .inr h, by rw [List.length_map]; exact q⟩
abbrev kAbs : List V → Hp → VK → Prop := fun xs H Q => ∃ i, xs = [.int i] ∧ Q (.int (if i < 0 then -i else i)) H
theorem rc_abs : RC kAbs [.int i] H (.int (if i < 0 then -i else i)) := fun _ q => ⟨i, rfl, q⟩
abbrev kInt1 : List V → Hp → VK → Prop := fun xs H Q => (∃ i, xs = [.int i] ∧ Q (.int i) H) ∨ ∃ k, xs = [.bl k] ∧ Q (.int (if k then 1 else 0)) H
theorem rc_int1 : RC kInt1 [.int i] H (.int i) := fun _ q => .inl ⟨i, rfl, q⟩
abbrev kMax2 : List V → Hp → VK → Prop := fun xs H Q => ∃ i j, xs = [.int i, .int j] ∧ Q (.int (if j > i then j else i)) H
theorem rc_max2 : RC kMax2 [.int i, .int j] H (.int (max i j)) := fun Q q => ⟨i, j, rfl, by
  have e : (if j > i then j else i) = max i j := by
    by_cases h : j > i
    · rw [if_pos h]; omega
    · rw [if_neg h]; omega
  rw [e]; exact q⟩
abbrev kMin2 : List V → Hp → VK → Prop := fun xs H Q => ∃ i j, xs = [.int i, .int j] ∧ Q (.int (if j < i then j else i)) H
theorem rc_min2 : RC kMin2 [.int i, .int j] H (.int (min i j)) := fun Q q => ⟨i, j, rfl, by
  have e : (if j < i then j else i) = min i j := by
    by_cases h : j < i
    · rw [if_pos h]; omega
    · rw [if_neg h]; omega
  rw [e]; exact q⟩
theorem rc_sum (h : SqL K H p (ns.map V.int)) : RC (rSum K) [.ref p] H (.int ns.sum) := fun _ q => ⟨p, ns, rfl, h, q⟩
theorem rc_max1 (h : SqL K H p (ns.map V.int)) (hn : ns ≠ []) : RC (rMax K) [.ref p] H (.int (maxL ns)) := fun Q q => ⟨p, ns, rfl, h, List.length_pos_iff.mpr hn, fun m h1 h2 => by
  rw [Fw.maxL_is h1 h2]
  exact q⟩
abbrev kList (K : PySem.W.Frag) : List V → Hp → VK → Prop := fun xs H Q => ∃ p ys, xs = [.ref p] ∧ (SqL K H p ys ∨ SqT K H p ys) ∧ ∀ l, H l = none → Q (.ref l) (upd H l (.lst ys))
theorem rn_listL (h : SqL K H p xs) : RCn (kList K) [.ref p] H (.lst xs) := fun _ q => ⟨p, xs, rfl, .inl h, q⟩
theorem rn_listT (h : SqT K H p xs) : RCn (kList K) [.ref p] H (.lst xs) := fun _ q => ⟨p, xs, rfl, .inr h, q⟩
abbrev kTuple (K : PySem.W.Frag) : List V → Hp → VK → Prop := fun xs H Q => ∃ p ys, xs = [.ref p] ∧ ((SqL K H p ys ∧ ∀ l, H l = none → Q (.ref l) (upd H l (.tup ys))) ∨ (SqT K H p ys ∧ Q (.ref p) H))
theorem rn_tupleL (h : SqL K H p xs) : RCn (kTuple K) [.ref p] H (.tup xs) := fun _ q => ⟨p, xs, rfl, .inl ⟨h, q⟩⟩

/-! slices of lists -/
theorem mk_slice {tl th : TO} {lo hi : Option Int} (h : Val te σ H (.ref a)) (hl : ∀ Q : Option Int → Hp → Prop, Q lo H → tl σ H Q) (hh : ∀ Q : Option Int → Hp → Prop, Q hi H → th σ H Q) (hs : SqL K H a xs) : Mkn (tSl (rSlL K) te tl th) σ H (.lst (cutV xs lo hi)) :=
  fun _ q => h _ (hl _ (hh _ ⟨a, xs, rfl, hs, q⟩))
theorem po_n : ∀ Q : Option Int → Hp → Prop, Q none H → tNoPart σ H Q := fun _ q => q
theorem po_s (h : Val te σ H (.int i)) : ∀ Q : Option Int → Hp → Prop, Q (some i) H → tPart te σ H Q := fun _ q => h _ ⟨i, rfl, q⟩
theorem mk_rev (h : Val te σ H (.ref a)) (hs : SqL K H a xs) : Mkn (tRevL K te) σ H (.lst xs.reverse) := fun _ q => h _ ⟨a, xs, rfl, hs, q⟩

/-! tests -/
theorem an_test (h : Val te σ H (.bl b)) : Ans (tTest te) σ H b := fun _ q => h _ ⟨b, rfl, q⟩
theorem an_B (h : Val te σ H (.bl b)) : Ans (tB te) σ H b := fun _ q => h _ ⟨b, rfl, q⟩
theorem an_and (h1 : Ans t σ H b) (h2 : b = true → Ans u σ H c) : Ans (tAnd t u) σ H (b && c) := fun Q q => h1 _ (by
  cases b with
  | true => exact h2 rfl Q q
  | false => exact q)
theorem an_or (h1 : Ans t σ H b) (h2 : b = false → Ans u σ H c) : Ans (tOr t u) σ H (b || c) := fun Q q => h1 _ (by
  cases b with
  | true => exact q
  | false => exact h2 rfl Q q)
theorem an_not (h : Ans t σ H b) : Ans (tNot t) σ H (!b) := fun _ q => h _ q
theorem va_andV (h1 : Val ta σ H (.bl b)) (h2 : b = true → Val tb σ H (.bl c)) : Val (tAndV ta tb) σ H (.bl (b && c)) := fun Q q => h1 _ ⟨b, rfl, by
  cases b with
  | true => exact h2 rfl Q q
  | false => exact q⟩
theorem va_notV (h1 : Val ta σ H (.bl b)) : Val (tNotV ta) σ H (.bl (!b)) := fun Q q => h1 _ ⟨b, rfl, q⟩
theorem va_chain {f g : Int → Int → Bool} (ha : Val ta σ H (.int i)) (hb : Val tb σ H (.int j)) (hc : Val tc σ H (.int k)) : Val (tChain (rI0 fun i j => .bl (f i j)) (rI0 fun i j => .bl (g i j)) ta tb tc) σ H (.bl (f i j && g j k)) :=
  fun Q q => ha _ (hb _ ⟨i, j, rfl, rfl, f i j, rfl, by
    cases e : f i j with
    | true => rw [e] at q; exact hc _ ⟨j, k, rfl, rfl, q⟩
    | false => rw [e] at q; exact q⟩)
end

/-! ### statements -/
section
variable {K : PySem.W.Frag} {σ : L2.St} {H : Hp} {ta tb tc te tl : TE} {t u : TT} {x y z v : V} {ts : TA} {vs : List V} {o : HO} {a p : Addr} {b : Bool} {xs : List V} {D : Ends} {tu tw tz : TS} {g : TG} {i j : Nat}
theorem w_asg (h : Val te σ H v) (k : tz D (σ.set i (some v)) H) : tSeq (tAsg te (gName i)) tz D σ H := h _ k
theorem e_asg (h : Val te σ H v) (k : D.nx (σ.set i (some v)) H) : tAsg te (gName i) D σ H := h _ k
theorem w_asgN (h : Mkn te σ H o) (k : ∀ p, H p = none → tz D (σ.set i (some (.ref p))) (upd H p o)) : tSeq (tAsg te (gName i)) tz D σ H := h _ k
theorem e_asgN (h : Mkn te σ H o) (k : ∀ p, H p = none → D.nx (σ.set i (some (.ref p))) (upd H p o)) : tAsg te (gName i) D σ H := h _ k
theorem w_ret (h : Val te σ H v) (k : D.rt v H) : tRet te D σ H := h _ k
theorem w_retN (h : Mkn te σ H o) (k : ∀ p, H p = none → D.rt (.ref p) (upd H p o)) : tRet te D σ H := h _ k
theorem e_if (h : Ans t σ H b) (h1 : b = true → tu D σ H) (h2 : b = false → tw D σ H) : tIfS t tu tw D σ H := h _ (by
  cases b with
  | true => exact h1 rfl
  | false => exact h2 rfl)
theorem w_if (h : Ans t σ H b) (h1 : b = true → tu { D with nx := tz D } σ H) (h2 : b = false → tw { D with nx := tz D } σ H) : tSeq (tIfS t tu tw) tz D σ H := e_if (D := { D with nx := tz D }) h h1 h2
/-- an if without else -/
theorem w_when (h : Ans t σ H b) (h1 : b = true → tu { D with nx := tz D } σ H) (h2 : b = false → tz D σ H) : tSeq (tIfS t tu tNext) tz D σ H := e_if (D := { D with nx := tz D }) h h1 h2
theorem e_when (h : Ans t σ H b) (h1 : b = true → tu D σ H) (h2 : b = false → D.nx σ H) : tIfS t tu tNext D σ H := e_if h h1 h2
/-- .. that is not taken -/
theorem w_skip (h : Ans t σ H false) (k : tz D σ H) : tSeq (tIfS t tu tw) tz D σ H → tSeq (tIfS t tu tw) tz D σ H := id
theorem w_drop (h : Val te σ H v) (k : tz D σ H) : tSeq (tDrop te) tz D σ H := h _ k
theorem e_app {l : Addr} (hl : H l = some (.lst xs)) (ha : Val ta σ H (.ref l)) (h : Val te σ H v) (hz : xs.length < 100000) (k : D.nx σ (upd H l (.lst (xs ++ [v])))) :
    tDrop (tBM K "list" rAppend ta (tCons te tNil)) D σ H := ha _ ⟨.inl ⟨rfl, xs, .inl (.inl hl)⟩, h _ ⟨l, xs, v, rfl, rfl, hl, Nat.lt_of_lt_of_le hz (by decide), k⟩⟩
theorem w_app {l : Addr} (hl : H l = some (.lst xs)) (ha : Val ta σ H (.ref l)) (h : Val te σ H v) (hz : xs.length < 100000) (k : tz D σ (upd H l (.lst (xs ++ [v])))) :
    tSeq (tDrop (tBM K "list" rAppend ta (tCons te tNil))) tz D σ H := e_app (D := { D with nx := tz D }) hl ha h hz k
theorem e_setL {l : Addr} {k : Nat} (hl : H l = some (.lst xs)) (h : Val te σ H v) (ho : Val ta σ H (.ref l)) (hi : Val tb σ H (.int (k : Int))) (hk : k < xs.length) (q : D.nx σ (upd H l (.lst (xs.set k v)))) :
    tAsg te (gSub ta tb rSetL) D σ H := h _ (ho _ (hi _ ⟨l, xs, (k : Int), k, rfl, rfl, hl, Evl.ixN_nat hk, q⟩))
theorem e_forR {n : Nat} (h : VAs ts σ H [.int (n : Int)]) (hn : n ≤ 100000) (Pv : Nat → L2.St → Hp → Prop) (h0 : Pv 0 σ H)
    (hs : ∀ (i : Nat) σ' H', i < n → Pv i σ' H' → tu { D with nx := Pv (i + 1), ct := Pv (i + 1), bk := D.nx } (σ'.set j (some (.int (i : Int)))) H') (hd : ∀ σ' H', Pv n σ' H' → D.nx σ' H') : tFor (iRng1 ts) (gName j) tu D σ H :=
  h _ ⟨n, rfl, by omega, by omega, by
    rw [Int.toNat_natCast]
    exact for_range (lo := 0) (n := n) Pv h0 (fun i σ' H' hi p => by
      have e0 : (0 : Int) + (i : Int) = (i : Int) := Int.zero_add _
      show tu { D with nx := Pv (i + 1), ct := Pv (i + 1), bk := D.nx } (σ'.set j (some (.int ((0 : Int) + (i : Int))))) H'
      rw [e0]
      exact hs i σ' H' hi p) hd⟩
theorem w_forR {n : Nat} (h : VAs ts σ H [.int (n : Int)]) (hn : n ≤ 100000) (Pv : Nat → L2.St → Hp → Prop) (h0 : Pv 0 σ H)
    (hs : ∀ (i : Nat) σ' H', i < n → Pv i σ' H' → tu { D with nx := Pv (i + 1), ct := Pv (i + 1), bk := tz D } (σ'.set j (some (.int (i : Int)))) H') (hd : ∀ σ' H', Pv n σ' H' → tz D σ' H') : tSeq (tFor (iRng1 ts) (gName j) tu) tz D σ H :=
  e_forR (D := { D with nx := tz D }) h hn Pv h0 hs hd
/-- range(1, m): the turn i has the int 1 + i -/
theorem w_forR2 {m : Int} (h : VAs ts σ H [.int 1, .int m]) (hn : -100000 ≤ m ∧ m ≤ 100000) (Pv : Nat → L2.St → Hp → Prop) (h0 : Pv 0 σ H)
    (hs : ∀ (i : Nat) σ' H', 1 + (i : Int) < m → Pv i σ' H' → tu { D with nx := Pv (i + 1), ct := Pv (i + 1), bk := tz D } (σ'.set j (some (.int (1 + (i : Int))))) H') (hd : ∀ σ' H', Pv (m - 1).toNat σ' H' → tz D σ' H') : tSeq (tFor (iRng2 ts) (gName j) tu) tz D σ H :=
  h _ ⟨1, m, rfl, ⟨by omega, by omega, by omega, by omega⟩, for_range (lo := 1) (n := (m - 1).toNat) (D := { D with nx := tz D }) Pv h0 (fun i σ' H' hi p => hs i σ' H' (by omega) p) hd⟩
theorem e_forL (h : Val tl σ H (.ref a)) (hx : SqL K H a xs) (Pv : Nat → L2.St → Hp → Prop) (h0 : Pv 0 σ H) (hl : ∀ i σ' H', i ≤ xs.length → Pv i σ' H' → SqL K H' a xs)
    (hs : ∀ i x σ' H', xs[i]? = some x → Pv i σ' H' → tu { D with nx := Pv (i + 1), ct := Pv (i + 1), bk := D.nx } (σ'.set j (some x)) H') (hd : ∀ σ' H', Pv xs.length σ' H' → D.nx σ' H') : tFor (iList K tl) (gName j) tu D σ H :=
  h _ ⟨a, rfl, ⟨xs, hx⟩, for_list Pv h0 hl hs hd⟩
theorem w_forL (h : Val tl σ H (.ref a)) (hx : SqL K H a xs) (Pv : Nat → L2.St → Hp → Prop) (h0 : Pv 0 σ H) (hl : ∀ i σ' H', i ≤ xs.length → Pv i σ' H' → SqL K H' a xs)
    (hs : ∀ i x σ' H', xs[i]? = some x → Pv i σ' H' → tu { D with nx := Pv (i + 1), ct := Pv (i + 1), bk := tz D } (σ'.set j (some x)) H') (hd : ∀ σ' H', Pv xs.length σ' H' → tz D σ' H') : tSeq (tFor (iList K tl) (gName j) tu) tz D σ H :=
  e_forL (D := { D with nx := tz D }) h hx Pv h0 hl hs hd
theorem w_forT (h : Val tl σ H (.ref a)) (hx : SqT K H a xs) (Pv : Nat → L2.St → Hp → Prop) (h0 : Pv 0 σ H) (hl : ∀ i σ' H', i ≤ xs.length → Pv i σ' H' → SqT K H' a xs)
    (hs : ∀ i x σ' H', xs[i]? = some x → Pv i σ' H' → tu { D with nx := Pv (i + 1), ct := Pv (i + 1), bk := tz D } (σ'.set j (some x)) H') (hd : ∀ σ' H', Pv xs.length σ' H' → tz D σ' H') : tSeq (tFor (iTup K tl) (gName j) tu) tz D σ H :=
  h _ ⟨a, rfl, ⟨xs, hx⟩, for_tup (D := { D with nx := tz D }) Pv h0 hl hs hd⟩
theorem w_while (Wd : Nat → L2.St → Hp → Prop) (m0 : Nat) (h0 : Wd m0 σ H)
    (hs : ∀ m σ' H', Wd m σ' H' → ∃ b, Ans t σ' H' b ∧ (b = true → ∃ N : L2.St → Hp → Prop, (∀ σ2 H2, N σ2 H2 → ∃ m', m' < m ∧ Wd m' σ2 H2) ∧ tu { D with nx := N, ct := N, bk := tz D } σ' H') ∧ (b = false → tz D σ' H')) : tSeq (tWhile t tu) tz D σ H :=
  ⟨Wd, ⟨m0, h0⟩, fun m σ' H' hw => by
    obtain ⟨b, hb, h1, h2⟩ := hs m σ' H' hw
    refine hb _ ?_
    cases b with
    | true => exact h1 rfl
    | false => exact h2 rfl⟩
end

/-! ### comprehensions: a list by its places -/
section
variable {K : PySem.W.Frag} {σ : L2.St} {H : Hp} {te tl : TE} {ts : TA} {a : Addr} {xs : List V} {j : Nat} {vs : List Nat}
def Cw (H : Hp) (f : Nat → V) (Dl : Addr) (i : Nat) (H' : Hp) : Prop := H Dl = none ∧ H' = upd H Dl (.lst ((List.range i).map f))
theorem cw_turn {f : Nat → V} {Dl : Addr} {i : Nat} {σ2 : L2.St} {H' : Hp} (p : Cw H f Dl i H') (hi : i < 50000) (he : Val te σ2 (upd H Dl (.lst ((List.range i).map f))) (f i)) :
    tYes σ2 H' fun b H3 => if b = true then te σ2 H3 fun y H4 => ∃ acc, H4 Dl = some (.lst acc) ∧ acc.length < sizeLine ∧ Cw H f Dl (i + 1) (upd H4 Dl (.lst (acc ++ [y]))) else Cw H f Dl (i + 1) H3 := by
  obtain ⟨p1, rfl⟩ := p
  show te σ2 _ _
  refine he _ ⟨_, upd_same, ?_, p1, ?_⟩
  · rw [List.length_map, List.length_range]
    exact Nat.lt_of_lt_of_le hi (by decide)
  · rw [upd_upd, List.range_succ, List.map_append]
    rfl
theorem mk_lcR {n : Nat} (f : Nat → V) (h : VAs ts σ H [.int (n : Int)]) (hn : n ≤ 40000) (hw : ∀ x, wipe ((wipe σ vs).set j (some x)) vs = wipe σ vs)
    (he : ∀ (i : Nat) (Dl : Addr) (ys : List V), H Dl = none → i < n → Val te ((wipe σ vs).set j (some (.int (i : Int)))) (upd H Dl (.lst ys)) (f i)) :
    Mkn (tLc (iRng1 ts) (gName j) tYes te vs) σ H (.lst ((List.range n).map f)) := fun Q q => h _ ⟨n, rfl, by omega, by omega, fun Dl hD => by
  rw [Int.toNat_natCast]
  exact lc_range (lo := 0) (n := n) (Cw H f Dl) ⟨hD, rfl⟩ (fun i H' hi p => by
    have e0 : (0 : Int) + (i : Int) = (i : Int) := Int.zero_add _
    show wipe ((wipe σ vs).set j (some (.int ((0 : Int) + (i : Int))))) vs = wipe σ vs ∧ tYes ((wipe σ vs).set j (some (.int ((0 : Int) + (i : Int))))) H' fun b H3 => if b = true then te ((wipe σ vs).set j (some (.int ((0 : Int) + (i : Int))))) H3 fun y H4 => ∃ acc, H4 Dl = some (.lst acc) ∧ acc.length < sizeLine ∧ Cw H f Dl (i + 1) (upd H4 Dl (.lst (acc ++ [y]))) else Cw H f Dl (i + 1) H3
    rw [e0]
    exact ⟨hw _, cw_turn p (by omega) (he i Dl _ hD hi)⟩) (fun H' p => by rw [p.2]; exact q Dl hD)⟩
theorem mk_lcL (f : V → V) (h : Val tl σ H (.ref a)) (hx : SqL K H a xs) (hz : xs.length ≤ 40000) (hw : ∀ x, wipe ((wipe σ vs).set j (some x)) vs = wipe σ vs)
    (he : ∀ (x : V) (Dl : Addr) (ys : List V), H Dl = none → x ∈ xs → Val te ((wipe σ vs).set j (some x)) (upd H Dl (.lst ys)) (f x)) :
    Mkn (tLc (iList K tl) (gName j) tYes te vs) σ H (.lst (xs.map f)) := fun Q q => h _ ⟨a, rfl, ⟨xs, hx⟩, fun Dl hD => by
  have e : ∀ i, i ≤ xs.length → (List.range i).map (fun k => f (xs.getD k .non)) = (xs.take i).map f := fun i hi => by
    apply List.ext_getElem?
    intro m
    rw [List.getElem?_map, List.getElem?_map]
    by_cases hm : m < i
    · rw [List.getElem?_range hm, List.getElem?_take_of_lt hm, List.getElem?_eq_getElem (show m < xs.length by omega)]
      show some (f (xs.getD m .non)) = some (f xs[m])
      rw [List.getD_eq_getElem?_getD, List.getElem?_eq_getElem (show m < xs.length by omega)]
      rfl
    · rw [List.getElem?_eq_none (by rw [List.length_range]; omega), List.getElem?_eq_none (by rw [List.length_take]; omega)]
      rfl
  refine lc_list (xs := xs) (Cw H (fun k => f (xs.getD k .non)) Dl) ⟨hD, rfl⟩ (fun i H' _ p => by rw [p.2]; exact ex_l (Ex.new p.1) hx) (fun i x H' hi p => ⟨hw x, cw_turn p (by have := (List.getElem?_eq_some_iff.mp hi).1; omega) ?_⟩) (fun H' p => ?_)
  · have ex : xs.getD i .non = x := by rw [List.getD_eq_getElem?_getD, hi]; rfl
    show Val te _ _ (f (xs.getD i .non))
    rw [ex]
    exact he x Dl _ hD (List.mem_of_getElem? hi)
  · rw [p.2, e _ (Nat.le_refl _), List.take_length]
    exact q Dl hD⟩
theorem mk_lcT (f : V → V) (h : Val tl σ H (.ref a)) (hx : SqT K H a xs) (hz : xs.length ≤ 40000) (hw : ∀ x, wipe ((wipe σ vs).set j (some x)) vs = wipe σ vs)
    (he : ∀ (x : V) (Dl : Addr) (ys : List V), H Dl = none → x ∈ xs → Val te ((wipe σ vs).set j (some x)) (upd H Dl (.lst ys)) (f x)) :
    Mkn (tLc (iTup K tl) (gName j) tYes te vs) σ H (.lst (xs.map f)) := fun Q q => h _ ⟨a, rfl, ⟨xs, hx⟩, fun Dl hD => by
  have e : ∀ i, i ≤ xs.length → (List.range i).map (fun k => f (xs.getD k .non)) = (xs.take i).map f := fun i hi => by
    apply List.ext_getElem?
    intro m
    rw [List.getElem?_map, List.getElem?_map]
    by_cases hm : m < i
    · rw [List.getElem?_range hm, List.getElem?_take_of_lt hm, List.getElem?_eq_getElem (show m < xs.length by omega)]
      show some (f (xs.getD m .non)) = some (f xs[m])
      rw [List.getD_eq_getElem?_getD, List.getElem?_eq_getElem (show m < xs.length by omega)]
      rfl
    · rw [List.getElem?_eq_none (by rw [List.length_range]; omega), List.getElem?_eq_none (by rw [List.length_take]; omega)]
      rfl
  refine lc_tup (xs := xs) (Cw H (fun k => f (xs.getD k .non)) Dl) ⟨hD, rfl⟩ (fun i H' _ p => by rw [p.2]; exact ex_t (Ex.new p.1) hx) (fun i x H' hi p => ⟨hw x, cw_turn p (by have := (List.getElem?_eq_some_iff.mp hi).1; omega) ?_⟩) (fun H' p => ?_)
  · have ex : xs.getD i .non = x := by rw [List.getD_eq_getElem?_getD, hi]; rfl
    show Val te _ _ (f (xs.getD i .non))
    rw [ex]
    exact he x Dl _ hD (List.mem_of_getElem? hi)
  · rw [p.2, e _ (Nat.le_refl _), List.take_length]
    exact q Dl hD⟩
end
/-! ### one step into a reading -/
section
variable {K : PySem.W.Frag} {σ : L2.St} {H : Hp} {ta tb te : TE} {t u : TT} {r : R2} {ts : TA} {Q : VK} {D : Ends} {tu tw tz : TS} {i : Nat} {g : TG} {rc : List V → Hp → VK → Prop}
theorem r_seq (h : tu { D with nx := tz D } σ H) : tSeq tu tz D σ H := h
theorem r_ret (h : te σ H D.rt) : tRet te D σ H := h
theorem r_asg (h : te σ H fun v H1 => g v σ H1 D.nx) : tAsg te g D σ H := h
theorem r_cb (h : ts σ H fun vs H1 => rc vs H1 Q) : tCB rc ts σ H Q := h
theorem r_cons {Q : List V → Hp → Prop} (h : te σ H fun x H1 => ts σ H1 fun xs H2 => Q (x :: xs) H2) : tCons te ts σ H Q := h
theorem r_nil {Q : List V → Hp → Prop} (h : Q [] H) : tNil σ H Q := h
theorem r_op (h : ta σ H fun x H1 => tb σ H1 fun y H2 => r x y H2 Q) : tOp r ta tb σ H Q := h
theorem r_call {sp : Sp} {dvs : List V} {E : XK} (h : ts σ H fun vs H1 => sp (vs ++ dvs) H1 Q E) : tCall sp dvs E ts σ H Q := h
theorem r_lst (h : ts σ H fun xs H1 => xs.length ≤ sizeLine ∧ ∀ p, H1 p = none → Q (.ref p) (upd H1 p (.lst xs))) : tLst ts σ H Q := h
theorem r_tup (h : ts σ H fun xs H1 => xs.length ≤ sizeLine ∧ ∀ p, H1 p = none → Q (.ref p) (upd H1 p (.tup xs))) : tTup ts σ H Q := h
theorem r_if (h : t σ H fun b H1 => if b = true then tu D σ H1 else tw D σ H1) : tIfS t tu tw D σ H := h
theorem r_test {Q : Bool → Hp → Prop} (h : te σ H fun x H1 => ∃ k, x = .bl k ∧ Q k H1) : tTest te σ H Q := h
theorem r_or {Q : Bool → Hp → Prop} (h : t σ H fun c H1 => if c = true then Q true H1 else u σ H1 Q) : tOr t u σ H Q := h
theorem r_and {Q : Bool → Hp → Prop} (h : t σ H fun c H1 => if c = true then u σ H1 Q else Q false H1) : tAnd t u σ H Q := h
theorem r_not {Q : Bool → Hp → Prop} (h : t σ H fun c H1 => Q (!c) H1) : tNot t σ H Q := h
theorem r_drop (h : te σ H fun _ H1 => D.nx σ H1) : tDrop te D σ H := h
/-- the value is told apart from the goal -/
theorem Val.go {v : V} (h : Val te σ H v) (k : Q v H) : te σ H Q := h Q k
theorem VAs.go {vs : List V} {Q : List V → Hp → Prop} (h : VAs ts σ H vs) (k : Q vs H) : ts σ H Q := h Q k
theorem Mkn.go {o : HO} (h : Mkn te σ H o) (k : ∀ p, H p = none → Q (.ref p) (upd H p o)) : te σ H Q := h Q k
theorem Ans.go {b : Bool} {Q : Bool → Hp → Prop} (h : Ans t σ H b) (k : Q b H) : t σ H Q := h Q k
theorem RV.go {x y v : V} (h : RV r x y H v) (k : Q v H) : r x y H Q := h Q k
theorem RC.go {xs : List V} {v : V} (h : RC rc xs H v) (k : Q v H) : rc xs H Q := h Q k
end
end Fv

/-! ## D0 -/
set_option Elab.async false
set_option linter.all false
set_option maxRecDepth 100000
set_option maxHeartbeats 4000000
namespace Fp
open PySem L2
/-! ### the text by places -/
def top (i : Nat) : Stmt := PySem.Challenge.pw_foreworth_k41_whole_few_papers.main.body.getD i (.Pass ⟨0, 0, 0, 0⟩)
abbrev s_P_distinct : Stmt := top 2
theorem sc_P_distinct : FnScope ["row"] ["row"] (defScope s_P_distinct) := ⟨rfl, rfl, rfl, by decide +kernel, rfl, by decide +kernel, by decide +kernel⟩
abbrev s_P_way_round : Stmt := top 4
theorem sc_P_way_round : FnScope ["ring", "first", "second"] ["ring", "first", "second"] (defScope s_P_way_round) := ⟨rfl, rfl, rfl, by decide +kernel, rfl, by decide +kernel, by decide +kernel⟩
abbrev s_P_leaps_within : Stmt := top 5
theorem sc_P_leaps_within : FnScope ["ring", "door", "lanes", "limit", "place", "ahead", "found", "passed", "end"] ["ring", "door", "lanes", "limit"] (defScope s_P_leaps_within) := ⟨rfl, rfl, rfl, by decide +kernel, rfl, by decide +kernel, by decide +kernel⟩
abbrev s_P_leaps : Stmt := top 6
theorem sc_P_leaps : FnScope ["ring", "door", "lanes", "cost"] ["ring", "door", "lanes", "cost"] (defScope s_P_leaps) := ⟨rfl, rfl, rfl, by decide +kernel, rfl, by decide +kernel, by decide +kernel⟩
abbrev s_P_choice_of_doors : Stmt := top 7
theorem sc_P_choice_of_doors : FnScope ["ring", "lanes", "cost", "limit", "door", "found"] ["ring", "lanes", "cost"] (defScope s_P_choice_of_doors) := ⟨rfl, rfl, rfl, by decide +kernel, rfl, by decide +kernel, by decide +kernel⟩
abbrev s_P_few_cost : Stmt := top 8
theorem sc_P_few_cost : FnScope ["ring", "lanes", "costs", "first", "second", "low", "high", "best", "middle", "found"] ["ring", "lanes"] (defScope s_P_few_cost) := ⟨rfl, rfl, rfl, by decide +kernel, rfl, by decide +kernel, by decide +kernel⟩
abbrev s_P_few_paper : Stmt := top 9
theorem sc_P_few_paper : FnScope ["ring", "lanes", "cost", "doors", "door"] ["ring", "lanes"] (defScope s_P_few_paper) := ⟨rfl, rfl, rfl, by decide +kernel, rfl, by decide +kernel, by decide +kernel⟩
abbrev s_P_is_choice : Stmt := top 10
theorem sc_P_is_choice : FnScope ["ring", "lanes", "doors", "place"] ["ring", "lanes", "doors"] (defScope s_P_is_choice) := ⟨rfl, rfl, rfl, by decide +kernel, rfl, by decide +kernel, by decide +kernel⟩
abbrev s_P_check_few : Stmt := top 11
theorem sc_P_check_few : FnScope ["ring", "lanes", "paper", "cost", "doors", "told", "place", "door"] ["ring", "lanes", "paper"] (defScope s_P_check_few) := ⟨rfl, rfl, rfl, by decide +kernel, rfl, by decide +kernel, by decide +kernel⟩
abbrev s_R_init : Stmt := inClass (top 16) 0
theorem sc_R_init : FnScope ["self", "prices", "doors", "nodes"] ["self", "prices", "doors", "nodes"] (defScope s_R_init) := ⟨rfl, rfl, rfl, by decide +kernel, rfl, by decide +kernel, by decide +kernel⟩
abbrev s_R_whole : Stmt := inClass (top 16) 1
theorem sc_R_whole : FnScope ["self"] ["self"] (defScope s_R_whole) := ⟨rfl, rfl, rfl, by decide +kernel, rfl, by decide +kernel, by decide +kernel⟩
abbrev s_R_far : Stmt := inClass (top 16) 2
theorem sc_R_far : FnScope ["self", "first", "second"] ["self", "first", "second"] (defScope s_R_far) := ⟨rfl, rfl, rfl, by decide +kernel, rfl, by decide +kernel, by decide +kernel⟩
abbrev s_R_greatest_gap : Stmt := inClass (top 16) 4
theorem sc_R_greatest_gap : FnScope ["self", "doors", "chosen", "place"] ["self", "doors"] (defScope s_R_greatest_gap) := ⟨rfl, rfl, rfl, by decide +kernel, rfl, by decide +kernel, by decide +kernel⟩
abbrev s_R_cost : Stmt := inClass (top 16) 5
theorem sc_R_cost : FnScope ["self", "doors"] ["self", "doors"] (defScope s_R_cost) := ⟨rfl, rfl, rfl, by decide +kernel, rfl, by decide +kernel, by decide +kernel⟩
abbrev s_R_chosen : Stmt := inClass (top 16) 8
theorem sc_R_chosen : FnScope ["self", "doors"] ["self", "doors"] (defScope s_R_chosen) := ⟨rfl, rfl, rfl, by decide +kernel, rfl, by decide +kernel, by decide +kernel⟩
abbrev s_R_gap : Stmt := inClass (top 16) 9
theorem sc_R_gap : FnScope ["self", "chosen", "place"] ["self", "chosen", "place"] (defScope s_R_gap) := ⟨rfl, rfl, rfl, by decide +kernel, rfl, by decide +kernel, by decide +kernel⟩
abbrev s_P_check_ring : Stmt := top 17
theorem sc_P_check_ring : FnScope ["prices", "doors", "nodes", "before", "door"] ["prices", "doors", "nodes"] (defScope s_P_check_ring) := ⟨rfl, rfl, rfl, by decide +kernel, rfl, by decide +kernel, by decide +kernel⟩
abbrev s_P_sums_of : Stmt := top 18
theorem sc_P_sums_of : FnScope ["prices", "sums", "price"] ["prices"] (defScope s_P_sums_of) := ⟨rfl, rfl, rfl, by decide +kernel, rfl, by decide +kernel, by decide +kernel⟩
abbrev s_L_cell : Stmt := top 20
theorem sc_L_cell : FnScope ["_law_script", "_law_k"] ["_law_script", "_law_k"] (defScope s_L_cell) := ⟨rfl, rfl, rfl, by decide +kernel, rfl, by decide +kernel, by decide +kernel⟩
abbrev s_L_digits : Stmt := top 21
theorem sc_L_digits : FnScope ["_law_cell_here", "_law_count", "_law_size", "_law_row", "_law_rest", "_law_k", "_law_mixed"] ["_law_cell_here", "_law_count", "_law_size"] (defScope s_L_digits) := ⟨rfl, rfl, rfl, by decide +kernel, rfl, by decide +kernel, by decide +kernel⟩
abbrev s_L_seed : Stmt := top 22
theorem sc_L_seed : FnScope ["_law_script", "_law_k"] ["_law_script", "_law_k"] (defScope s_L_seed) := ⟨rfl, rfl, rfl, by decide +kernel, rfl, by decide +kernel, by decide +kernel⟩
abbrev s_L_price : Stmt := top 23
theorem sc_L_price : FnScope ["_law_digit"] ["_law_digit"] (defScope s_L_price) := ⟨rfl, rfl, rfl, by decide +kernel, rfl, by decide +kernel, by decide +kernel⟩
abbrev s_L_far : Stmt := top 24
theorem sc_L_far : FnScope ["_law_prices", "_law_start", "_law_end", "_law_total", "_law_place", "_law_k"] ["_law_prices", "_law_start", "_law_end"] (defScope s_L_far) := ⟨rfl, rfl, rfl, by decide +kernel, rfl, by decide +kernel, by decide +kernel⟩
abbrev s_L_gap : Stmt := top 25
theorem sc_L_gap : FnScope ["_law_prices", "_law_gates", "_law_k"] ["_law_prices", "_law_gates", "_law_k"] (defScope s_L_gap) := ⟨rfl, rfl, rfl, by decide +kernel, rfl, by decide +kernel, by decide +kernel⟩
abbrev s_L_cost : Stmt := top 26
theorem sc_L_cost : FnScope ["_law_prices", "_law_gates", "_law_k"] ["_law_prices", "_law_gates"] (defScope s_L_cost) := ⟨rfl, rfl, rfl, by decide +kernel, rfl, by decide +kernel, by decide +kernel⟩
abbrev s_L_is_int : Stmt := top 27
theorem sc_L_is_int : FnScope ["_law_value"] ["_law_value"] (defScope s_L_is_int) := ⟨rfl, rfl, rfl, by decide +kernel, rfl, by decide +kernel, by decide +kernel⟩
abbrev s_L_ints : Stmt := top 28
theorem sc_L_ints : FnScope ["_law_row", "_law_value"] ["_law_row"] (defScope s_L_ints) := ⟨rfl, rfl, rfl, by decide +kernel, rfl, by decide +kernel, by decide +kernel⟩
abbrev s_L_drawn : Stmt := top 29
theorem sc_L_drawn : FnScope ["_law_cell_here", "_law_most", "_law_many", "_law_row", "_law_size", "_law_prices", "_law_k", "_law_gates", "_law_place"] ["_law_cell_here", "_law_most", "_law_many"] (defScope s_L_drawn) := ⟨rfl, rfl, rfl, by decide +kernel, rfl, by decide +kernel, by decide +kernel⟩
abbrev s_L_made : Stmt := top 30
theorem sc_L_made : FnScope ["_law_drawn_here", "_law_digit", "_law_k"] ["_law_drawn_here", "_law_digit"] (defScope s_L_made) := ⟨rfl, rfl, rfl, by decide +kernel, rfl, by decide +kernel, by decide +kernel⟩
abbrev s_L_best : Stmt := top 31
theorem sc_L_best : FnScope ["_law_prices", "_law_gates", "_law_best_here", "_law_codes", "_law_gate", "_law_code", "_law_rest", "_law_chosen", "_law_k"] ["_law_prices", "_law_gates"] (defScope s_L_best) := ⟨rfl, rfl, rfl, by decide +kernel, rfl, by decide +kernel, by decide +kernel⟩
abbrev s_L_sums : Stmt := top 32
theorem sc_L_sums : FnScope ["_law_prices", "_law_sums_here", "_law_price_here"] ["_law_prices"] (defScope s_L_sums) := ⟨rfl, rfl, rfl, by decide +kernel, rfl, by decide +kernel, by decide +kernel⟩
abbrev s_L_back : Stmt := top 33
theorem sc_L_back : FnScope ["_law_sums_here", "_law_last", "_law_first"] ["_law_sums_here", "_law_last", "_law_first"] (defScope s_L_back) := ⟨rfl, rfl, rfl, by decide +kernel, rfl, by decide +kernel, by decide +kernel⟩
abbrev s_L_leaps : Stmt := top 34
theorem sc_L_leaps : FnScope ["_law_sums_here", "_law_gates", "_law_first", "_law_count", "_law_cost_here", "_law_found", "_law_k", "_law_here", "_law_end", "_law_reach", "_law_best_here", "_law_gate", "_law_way"] ["_law_sums_here", "_law_gates", "_law_first", "_law_count", "_law_cost_here"] (defScope s_L_leaps) := ⟨rfl, rfl, rfl, by decide +kernel, rfl, by decide +kernel, by decide +kernel⟩
abbrev s_L_is_set : Stmt := top 35
theorem sc_L_is_set : FnScope ["_law_gates", "_law_count", "_law_chosen", "_law_k"] ["_law_gates", "_law_count", "_law_chosen"] (defScope s_L_is_set) := ⟨rfl, rfl, rfl, by decide +kernel, rfl, by decide +kernel, by decide +kernel⟩
abbrev s_L_holds : Stmt := top 36
theorem sc_L_holds : FnScope ["_law_drawn_here", "_law_count", "_law_paper", "_law_gates", "_law_sums_here", "_law_k", "_law_due"] ["_law_drawn_here", "_law_count", "_law_paper"] (defScope s_L_holds) := ⟨rfl, rfl, rfl, by decide +kernel, rfl, by decide +kernel, by decide +kernel⟩
abbrev s_L_is_paper : Stmt := top 37
theorem sc_L_is_paper : FnScope ["_law_told", "_law_row"] ["_law_told"] (defScope s_L_is_paper) := ⟨rfl, rfl, rfl, by decide +kernel, rfl, by decide +kernel, by decide +kernel⟩
abbrev s_L_copied : Stmt := top 38
theorem sc_L_copied : FnScope ["_law_paper", "_law_row"] ["_law_paper"] (defScope s_L_copied) := ⟨rfl, rfl, rfl, by decide +kernel, rfl, by decide +kernel, by decide +kernel⟩
abbrev s_L_paper_of : Stmt := top 39
theorem sc_L_paper_of : FnScope ["_law_drawn_here", "_law_count", "_law_chosen", "_law_sums_here", "_law_cost_here", "_law_gate"] ["_law_drawn_here", "_law_count", "_law_chosen"] (defScope s_L_paper_of) := ⟨rfl, rfl, rfl, by decide +kernel, rfl, by decide +kernel, by decide +kernel⟩
abbrev s_L_some_doors : Stmt := top 40
theorem sc_L_some_doors : FnScope ["_law_drawn_here", "_law_digit", "_law_rest", "_law_chosen", "_law_gate"] ["_law_drawn_here", "_law_digit"] (defScope s_L_some_doors) := ⟨rfl, rfl, rfl, by decide +kernel, rfl, by decide +kernel, by decide +kernel⟩
abbrev s_L_best_doors : Stmt := top 41
theorem sc_L_best_doors : FnScope ["_law_drawn_here", "_law_count", "_law_most", "_law_digit", "_law_sets", "_law_codes", "_law_gate", "_law_code", "_law_chosen"] ["_law_drawn_here", "_law_count", "_law_most", "_law_digit"] (defScope s_L_best_doors) := ⟨rfl, rfl, rfl, by decide +kernel, rfl, by decide +kernel, by decide +kernel⟩
abbrev s_L_strange : Stmt := top 42
theorem sc_L_strange : FnScope ["_law_drawn_here", "_law_digit", "_law_size", "_law_other"] ["_law_drawn_here", "_law_digit"] (defScope s_L_strange) := ⟨rfl, rfl, rfl, by decide +kernel, rfl, by decide +kernel, by decide +kernel⟩
abbrev s_L_spoil_doors : Stmt := top 43
theorem sc_L_spoil_doors : FnScope ["_law_drawn_here", "_law_chosen", "_law_kind", "_law_digit", "_law_place"] ["_law_drawn_here", "_law_chosen", "_law_kind", "_law_digit"] (defScope s_L_spoil_doors) := ⟨rfl, rfl, rfl, by decide +kernel, rfl, by decide +kernel, by decide +kernel⟩
abbrev s_L_spoil_row : Stmt := top 44
theorem sc_L_spoil_row : FnScope ["_law_drawn_here", "_law_row", "_law_kind", "_law_digit", "_law_place"] ["_law_drawn_here", "_law_row", "_law_kind", "_law_digit"] (defScope s_L_spoil_row) := ⟨rfl, rfl, rfl, by decide +kernel, rfl, by decide +kernel, by decide +kernel⟩
abbrev s_L_spoil : Stmt := top 45
theorem sc_L_spoil : FnScope ["_law_drawn_here", "_law_paper", "_law_digit", "_law_more", "_law_kind", "_law_spoilt", "_law_place"] ["_law_drawn_here", "_law_paper", "_law_digit", "_law_more"] (defScope s_L_spoil) := ⟨rfl, rfl, rfl, by decide +kernel, rfl, by decide +kernel, by decide +kernel⟩
abbrev s_L_checks : Stmt := top 46
theorem sc_L_checks : FnScope ["_law_ring", "_law_drawn_here", "_law_count", "_law_paper", "_law_due", "_law_turn", "_law_handed", "_law_told"] ["_law_ring", "_law_drawn_here", "_law_count", "_law_paper"] (defScope s_L_checks) := ⟨rfl, rfl, rfl, by decide +kernel, rfl, by decide +kernel, by decide +kernel⟩
abbrev s_L_made_paper : Stmt := top 47
theorem sc_L_made_paper : FnScope ["_law_drawn_here", "_law_count", "_law_told", "_law_choices", "_law_small", "_law_kind"] ["_law_drawn_here", "_law_count", "_law_told", "_law_choices", "_law_small"] (defScope s_L_made_paper) := ⟨rfl, rfl, rfl, by decide +kernel, rfl, by decide +kernel, by decide +kernel⟩
abbrev s_law : Stmt := top 48
theorem sc_law : FnScope ["_law_script", "_law_choices", "_law_small", "_law_drawn_here", "_law_count", "_law_ring", "_law_told", "_law_first", "_law_paper", "_law_k", "_law_spoilt", "_law_row", "_law_other", "_law_more", "_law_again", "_law_cost_here", "_law_chosen"] ["_law_script"] (defScope s_law) := ⟨rfl, rfl, rfl, by decide +kernel, rfl, by decide +kernel, by decide +kernel⟩
/-! ### built-ins -/
theorem bt_len : bootBuiltins "len" = some (.builtin "len") := by decide +kernel
theorem bt_range : bootBuiltins "range" = some (.type "range") := by decide +kernel
theorem bt_min : bootBuiltins "min" = some (.builtin "min") := by decide +kernel
theorem bt_max : bootBuiltins "max" = some (.builtin "max") := by decide +kernel
theorem bt_sum : bootBuiltins "sum" = some (.builtin "sum") := by decide +kernel
theorem bt_sorted : bootBuiltins "sorted" = some (.builtin "sorted") := by decide +kernel
theorem bt_abs : bootBuiltins "abs" = some (.builtin "abs") := by decide +kernel
theorem bt_isinstance : bootBuiltins "isinstance" = some (.builtin "isinstance") := by decide +kernel
theorem bt_int : bootBuiltins "int" = some (.type "int") := by decide +kernel
theorem bt_bool : bootBuiltins "bool" = some (.type "bool") := by decide +kernel
theorem bt_list : bootBuiltins "list" = some (.type "list") := by decide +kernel
theorem bt_tuple : bootBuiltins "tuple" = some (.type "tuple") := by decide +kernel
theorem bt_set : bootBuiltins "set" = some (.type "set") := by decide +kernel
/-- what the module leaves: no built-in's name is taken; the class at C -/
structure Txt (K : PySem.W.Frag) (mg : Str → Option Value) (C : Addr) : Prop where
  len : mg "len" = none
  range : mg "range" = none
  min : mg "min" = none
  max : mg "max" = none
  sum : mg "sum" = none
  sorted : mg "sorted" = none
  abs : mg "abs" = none
  isinstance : mg "isinstance" = none
  int : mg "int" = none
  bool : mg "bool" = none
  list : mg "list" = none
  tuple : mg "tuple" = none
  set : mg "set" = none
  cl : Cls K C
  n1 : NoAttr K C "size"
  n2 : NoAttr K C "prices"
  n3 : NoAttr K C "doors"
  n4 : NoAttr K C "nodes"
  n5 : NoAttr K C "_sums"
end Fp

/-! ## D1 -/
set_option Elab.async false
set_option linter.all false
set_option maxRecDepth 100000
set_option maxHeartbeats 4000000
namespace Fp
open PySem L2 Fv
open Evl (Ex Ex.refl Ex.trans Ex.new fresh_back ex_rd ex_l ex_t)
open Fw
local macro_rules | `(tactic| walk_at "va") => `(tactic| first
  | with_reducible exact va_c
  | ((with_reducible apply va_var); exact rfl)
  | with_reducible exact vs_nil
  | ((with_reducible apply vs_cons) <;> walk_at "va")
  | ((with_reducible apply va_op) <;> walk_at "va")
  | ((with_reducible apply va_un) <;> walk_at "va")
  | ((with_reducible apply va_cb) <;> walk_at "va")
  | ((with_reducible apply va_call) <;> walk_at "va")
  | ((with_reducible apply an_test) <;> walk_at "va")
  | ((with_reducible apply an_B) <;> walk_at "va")
  | ((with_reducible apply an_not) <;> walk_at "va")
  | ((with_reducible apply va_chain) <;> walk_at "va")
  | ((with_reducible apply mk_lst) <;> first | walk_at "va" | (show _ ≤ 100000; decide))
  | ((with_reducible apply mk_tup) <;> first | walk_at "va" | (show _ ≤ 100000; decide))
  | ((with_reducible apply mk_cb) <;> walk_at "va")
  | ((with_reducible apply mk_call) <;> walk_at "va")
  | with_reducible exact rv_I0
  | with_reducible exact rv_eqI
  | with_reducible exact rv_neI
  | with_reducible exact ru_neg
  | with_reducible exact rc_int1
  | with_reducible exact rc_abs
  | with_reducible exact rc_max2
  | with_reducible exact rc_min2
  | ((with_reducible apply rc_sum); assumption)
  | ((with_reducible apply rc_lenLI); assumption)
  | ((with_reducible apply rc_lenTI); assumption)
  | ((with_reducible apply rc_lenL); assumption)
  | ((with_reducible apply rc_lenT); assumption)
  | ((with_reducible apply rv_ixL) <;> assumption)
  | ((with_reducible apply rv_ixT) <;> assumption)
  | ((with_reducible apply rv_ixSL) <;> assumption)
  | ((with_reducible apply rv_ixST) <;> assumption)
  | ((with_reducible apply rv_inL); assumption)
  | ((with_reducible apply rv_inT); assumption)
  | ((with_reducible apply rv_ninL); assumption)
  | ((with_reducible apply rv_ninT); assumption)
  | ((with_reducible apply rn_listL); assumption)
  | ((with_reducible apply rn_listT); assumption)
  | ((with_reducible apply rn_tupleL); assumption)
  | assumption)
/-! ### a ring in the heap -/
def fsR (n : Int) (a b c d : Addr) : List (Str × V) := putF "_sums" (.ref d) (putF "nodes" (.ref c) (putF "doors" (.ref b) (putF "prices" (.ref a) (putF "size" (.int n) []))))
theorem ne12 : ¬ (("size" : Str) = "prices") := by decide +kernel
theorem ne13 : ¬ (("size" : Str) = "doors") := by decide +kernel
theorem ne14 : ¬ (("size" : Str) = "nodes") := by decide +kernel
theorem ne15 : ¬ (("size" : Str) = "_sums") := by decide +kernel
theorem ne23 : ¬ (("prices" : Str) = "doors") := by decide +kernel
theorem ne24 : ¬ (("prices" : Str) = "nodes") := by decide +kernel
theorem ne25 : ¬ (("prices" : Str) = "_sums") := by decide +kernel
theorem ne34 : ¬ (("doors" : Str) = "nodes") := by decide +kernel
theorem ne35 : ¬ (("doors" : Str) = "_sums") := by decide +kernel
theorem ne45 : ¬ (("nodes" : Str) = "_sums") := by decide +kernel
section
variable {n : Int} {a b c d : Addr}
theorem fs_size : (fsR n a b c d).lookup ("size" : Str) = some (.int n) := by
  unfold fsR
  rw [lookup_putF, if_neg ne15, lookup_putF, if_neg ne14, lookup_putF, if_neg ne13, lookup_putF, if_neg ne12, lookup_putF, if_pos rfl]
theorem fs_prices : (fsR n a b c d).lookup ("prices" : Str) = some (.ref a) := by
  unfold fsR
  rw [lookup_putF, if_neg ne25, lookup_putF, if_neg ne24, lookup_putF, if_neg ne23, lookup_putF, if_pos rfl]
theorem fs_doors : (fsR n a b c d).lookup ("doors" : Str) = some (.ref b) := by
  unfold fsR
  rw [lookup_putF, if_neg ne35, lookup_putF, if_neg ne34, lookup_putF, if_pos rfl]
theorem fs_sums : (fsR n a b c d).lookup ("_sums" : Str) = some (.ref d) := by
  unfold fsR
  rw [lookup_putF, if_pos rfl]
theorem fs_no {m : Str} (h1 : ¬ m = "size") (h2 : ¬ m = "prices") (h3 : ¬ m = "doors") (h4 : ¬ m = "nodes") (h5 : ¬ m = "_sums") : (fsR n a b c d).lookup m = none := by
  unfold fsR
  rw [lookup_putF, if_neg h5, lookup_putF, if_neg h4, lookup_putF, if_neg h3, lookup_putF, if_neg h2, lookup_putF, if_neg h1]
  rfl
theorem no_whole : (fsR n a b c d).lookup ("whole" : Str) = none := fs_no (by decide +kernel) (by decide +kernel) (by decide +kernel) (by decide +kernel) (by decide +kernel)
theorem no_far : (fsR n a b c d).lookup ("far" : Str) = none := fs_no (by decide +kernel) (by decide +kernel) (by decide +kernel) (by decide +kernel) (by decide +kernel)
theorem no_gap : (fsR n a b c d).lookup ("_gap" : Str) = none := fs_no (by decide +kernel) (by decide +kernel) (by decide +kernel) (by decide +kernel) (by decide +kernel)
theorem no_chosen : (fsR n a b c d).lookup ("_chosen" : Str) = none := fs_no (by decide +kernel) (by decide +kernel) (by decide +kernel) (by decide +kernel) (by decide +kernel)
theorem no_gg : (fsR n a b c d).lookup ("greatest_gap" : Str) = none := fs_no (by decide +kernel) (by decide +kernel) (by decide +kernel) (by decide +kernel) (by decide +kernel)
theorem no_cost : (fsR n a b c d).lookup ("cost" : Str) = none := fs_no (by decide +kernel) (by decide +kernel) (by decide +kernel) (by decide +kernel) (by decide +kernel)
end
def sums (ps : List Int) : List Int := (List.range (ps.length + 1)).map fun (i : Nat) => S ps (i : Int)
theorem sums_len (ps : List Int) : (sums ps).length = ps.length + 1 := by
  unfold sums
  rw [List.length_map, List.length_range]
theorem gi_sums {ps : List Int} {i : Int} (h0 : 0 ≤ i) (h : i ≤ (ps.length : Int)) : gi (sums ps) i = S ps i := by
  obtain ⟨n, rfl⟩ := Int.eq_ofNat_of_zero_le h0
  refine gi_some ?_
  unfold sums
  rw [List.getElem?_map, List.getElem?_range (show n < ps.length + 1 by omega)]
  rfl
theorem at_sums {ps : List Int} {i : Int} (h0 : 0 ≤ i) (h : i ≤ (ps.length : Int)) : atI ((sums ps).map V.int) i = some (.int (S ps i)) := by
  have e := at_gi (ns := sums ps) h0 (by rw [sums_len]; omega)
  rw [gi_sums h0 h] at e
  exact e
def RingAt (C : Addr) (H : Hp) (r : Addr) (ps gs : List Int) : Prop := ∃ dx a b c d, H r = some (.ins C dx (fsR (ps.length : Int) a b c d)) ∧ H a = some (.tup (ps.map V.int)) ∧ (∃ ob, ob.dict = none ∧ H b = some (.frz ob (.tup (gs.map V.int)))) ∧ H d = some (.tup ((sums ps).map V.int))
theorem RingAt.ex {C : Addr} {H H' : Hp} {r : Addr} {ps gs : List Int} (e : Ex H H') (h : RingAt C H r ps gs) : RingAt C H' r ps gs := by
  obtain ⟨dx, a, b, c, d, h1, h2, ⟨ob, hd, h3⟩, h4⟩ := h
  exact ⟨dx, a, b, c, d, e _ _ h1, e _ _ h2, ⟨ob, hd, e _ _ h3⟩, e _ _ h4⟩
theorem sqF {K : PySem.W.Frag} {H : Hp} {b : Addr} {ob : Obj} {xs : List V} (h : H b = some (.frz ob (.tup xs))) : SqT K H b xs := .inl (.inr ⟨ob, h⟩)

/-! ### promises of the ring's methods -/
def spWhole (C : Addr) : Sp := fun vs H Q _ => ND H ∧ ∃ r ps gs, vs = [.ref r] ∧ RingAt C H r ps gs ∧ Q (.int (W ps)) H
def spFar (C : Addr) : Sp := fun vs H Q _ => ND H ∧ ∃ r ps gs i j, vs = [.ref r, .int i, .int j] ∧ RingAt C H r ps gs ∧ (0 ≤ i ∧ i ≤ (ps.length : Int)) ∧ (0 ≤ j ∧ j ≤ (ps.length : Int)) ∧ Q (.int (far ps i j)) H
def spWay (C : Addr) : Sp := fun vs H Q _ => ND H ∧ ∃ r ps gs i j, vs = [.ref r, .int i, .int j] ∧ RingAt C H r ps gs ∧ (0 ≤ i ∧ i ≤ (ps.length : Int)) ∧ (0 ≤ j ∧ j ≤ (ps.length : Int)) ∧ Q (.int (way ps i j)) H
section
variable {C : Addr} {H : Hp} {r : Addr} {ps gs : List Int} {i j : Int}
theorem sv_whole (nd : ND H) (R : RingAt C H r ps gs) : SV (spWhole C) [.ref r] H (.int (W ps)) := fun Q E q => ⟨nd, r, ps, gs, rfl, R, q⟩
theorem sv_far (nd : ND H) (R : RingAt C H r ps gs) (hi : 0 ≤ i ∧ i ≤ (ps.length : Int)) (hj : 0 ≤ j ∧ j ≤ (ps.length : Int)) : SV (spFar C) [.ref r, .int i, .int j] H (.int (far ps i j)) := fun Q E q => ⟨nd, r, ps, gs, i, j, rfl, R, hi, hj, q⟩
theorem sv_way (nd : ND H) (R : RingAt C H r ps gs) (hi : 0 ≤ i ∧ i ≤ (ps.length : Int)) (hj : 0 ≤ j ∧ j ≤ (ps.length : Int)) : SV (spWay C) [.ref r, .int i, .int j] H (.int (way ps i j)) := fun Q E q => ⟨nd, r, ps, gs, i, j, rfl, R, hi, hj, q⟩
variable {te : TE} {ta : TA} {σ : L2.St} {K : PySem.W.Frag} {mg : Str → Option Value}
theorem va_whole {E : XK} (h : Val te σ H (.ref r)) (nd : ND H) (R : RingAt C H r ps gs) : Val (tMeth C "whole" (spWhole C) [] E te tNil) σ H (.int (W ps)) := by
  obtain ⟨dx, a, b, c, d, h1, h2, h3, h4⟩ := id R
  exact va_meth h h1 no_whole vs_nil (sv_whole nd R)
theorem va_far {E : XK} (h : Val te σ H (.ref r)) (ha : VAs ta σ H [.int i, .int j]) (nd : ND H) (R : RingAt C H r ps gs) (hi : 0 ≤ i ∧ i ≤ (ps.length : Int)) (hj : 0 ≤ j ∧ j ≤ (ps.length : Int)) : Val (tMeth C "far" (spFar C) [] E te ta) σ H (.int (far ps i j)) := by
  obtain ⟨dx, a, b, c, d, h1, h2, h3, h4⟩ := id R
  exact va_meth h h1 no_far ha (sv_far nd R hi hj)
theorem va_sumsAt {tx : TE} (T : Txt K mg C) (h : Val te σ H (.ref r)) (R : RingAt C H r ps gs) (hx : Val tx σ H (.int i)) (hi : 0 ≤ i ∧ i ≤ (ps.length : Int)) : Val (tOp (rIxT K) (tFld K te "_sums") tx) σ H (.int (S ps i)) := by
  obtain ⟨dx, a, b, c, d, h1, h2, h3, h4⟩ := id R
  exact va_op (va_fld h h1 T.cl T.n5 fs_sums) hx (rv_ixT (SqT.of h4) (at_sums hi.1 hi.2))
theorem va_size (T : Txt K mg C) (h : Val te σ H (.ref r)) (R : RingAt C H r ps gs) : Val (tFld K te "size") σ H (.int (ps.length : Int)) := by
  obtain ⟨dx, a, b, c, d, h1, h2, h3, h4⟩ := id R
  exact va_fld h h1 T.cl T.n1 fs_size
end
section
variable {P : Program} {w : World} {K : PySem.W.Frag} {mg : Str → Option Value} {base : Heap} {C f : Addr} {fd : FuncData}
theorem ok_R_whole (T : Txt K mg C) (F : Fun K "whole" "Ring.whole" s_R_whole f fd) : FnOk P w K mg base CX0 1 f fd ["self"] (spWhole C) := by
  refine okF F sc_R_whole (fun vs H Q E h => h.1) (fun vs H Q E h => ?_) (fun cdv A outer s H vs Q E hr h => ?_)
  · obtain ⟨_, r, ps, gs, rfl, _⟩ := h
    rfl
  · obtain ⟨nd, r, ps, gs, rfl, R, q⟩ := h
    refine ⟨_, (pss_one (ps_ret (pe_ix ix_tup (pe_fld (pv 0) rfl) (pe_fld (pv 0) rfl) (fun _ _ => rfl)))), ?_⟩
    refine w_ret (va_sumsAt T (va_var rfl) R (va_size T (va_var rfl) R) ⟨by omega, by omega⟩) ?_
    rw [S_len]
    exact rt_val (Ex.refl H) q
theorem ok_R_far (T : Txt K mg C) (F : Fun K "far" "Ring.far" s_R_far f fd) (c_R_whole : C8.Met P w K mg base 1 C "whole" (spWhole C) []) : FnOk P w K mg base CX0 2 f fd ["self", "first", "second"] (spFar C) := by
  refine okF F sc_R_far (fun vs H Q E h => h.1) (fun vs H Q E h => ?_) (fun cdv A outer s H vs Q E hr h => ?_)
  · obtain ⟨_, r, ps, gs, i, j, rfl, _⟩ := h
    rfl
  · obtain ⟨nd, r, ps, gs, i, j, rfl, R, hi, hj, q⟩ := h
    refine ⟨_, (pss_cons (ps_if (pt_cmpR op_le (pv 1) (pv 2) (nomark _)) (pss_one (ps_ret (pe_op op_sub (pe_ix ix_tup (pe_fld (pv 0) rfl) (pv 2) (fun _ _ => rfl)) (pe_ix ix_tup (pe_fld (pv 0) rfl) (pv 1) (fun _ _ => rfl))))) pss_nil)
      (pss_one (ps_ret (pe_op op_add (pe_op op_sub (C8.pe_mt0 c_R_whole hr (by decide) (pv 0)) (pe_ix ix_tup (pe_fld (pv 0) rfl) (pv 1) (fun _ _ => rfl))) (pe_ix ix_tup (pe_fld (pv 0) rfl) (pv 2) (fun _ _ => rfl)))))), ?_⟩
    have e : far ps i j = if i ≤ j then S ps j - S ps i else W ps - S ps i + S ps j := rfl
    refine w_when (by walk_at "va") (fun b => ?_) (fun b => ?_)
    · have b := of_decide_eq_true b
      refine w_ret (va_op (va_sumsAt T (va_var rfl) R (va_var rfl) hj) (va_sumsAt T (va_var rfl) R (va_var rfl) hi) rv_I0) ?_
      rw [e, if_pos b] at q
      exact rt_val (Ex.refl H) q
    · have b := of_decide_eq_false b
      refine w_ret (va_op (va_op (va_whole (va_var rfl) nd R) (va_sumsAt T (va_var rfl) R (va_var rfl) hi) rv_I0) (va_sumsAt T (va_var rfl) R (va_var rfl) hj) rv_I0) ?_
      rw [e, if_neg b] at q
      exact rt_val (Ex.refl H) q
theorem ok_P_way_round (T : Txt K mg C) (F : Fun K "way_round" "way_round" s_P_way_round f fd) (c_R_whole : C8.Met P w K mg base 1 C "whole" (spWhole C) []) (c_R_far : C8.Met P w K mg base 2 C "far" (spFar C) []) :
    FnOk P w K mg base CX0 3 f fd ["ring", "first", "second"] (spWay C) := by
  refine okF F sc_P_way_round (fun vs H Q E h => h.1) (fun vs H Q E h => ?_) (fun cdv A outer s H vs Q E hr h => ?_)
  · obtain ⟨_, r, ps, gs, i, j, rfl, _⟩ := h
    rfl
  · obtain ⟨nd, r, ps, gs, i, j, rfl, R, hi, hj, q⟩ := h
    refine ⟨_, (pss_cons (ps_if (pt_cmpR op_eq (pv 1) (pv 2) (nomark _)) (pss_one (ps_ret (C8.pe_mt0 c_R_whole hr (by decide) (pv 0)))) pss_nil)
      (pss_one (ps_ret (C8.pe_mt c_R_far hr (by decide) (pv 0) (pa_cons (pv 1) (pa_cons (pv 2) pa_nil)))))), ?_⟩
    have e : way ps i j = if i = j then W ps else far ps i j := rfl
    refine w_when (by walk_at "va") (fun b => ?_) (fun b => ?_)
    · have b := of_decide_eq_true b
      refine w_ret (va_whole (va_var rfl) nd R) ?_
      rw [e, if_pos b] at q
      exact rt_val (Ex.refl H) q
    · have b := of_decide_eq_false b
      refine w_ret (va_far (va_var rfl) (by walk_at "va") nd R hi hj) ?_
      rw [e, if_neg b] at q
      exact rt_val (Ex.refl H) q
end
end Fp

/-! ## D2 -/
set_option Elab.async false
set_option linter.all false
set_option maxRecDepth 100000
set_option maxHeartbeats 4000000
namespace Fp
open PySem L2 Fv
open Evl (Ex Ex.refl Ex.trans Ex.new fresh_back ex_rd ex_l ex_t)
open Fw
local macro_rules | `(tactic| walk_at "va") => `(tactic| first
  | with_reducible exact va_c
  | ((with_reducible apply va_var); exact rfl)
  | with_reducible exact vs_nil
  | ((with_reducible apply vs_cons) <;> walk_at "va")
  | ((with_reducible apply va_op) <;> walk_at "va")
  | ((with_reducible apply va_un) <;> walk_at "va")
  | ((with_reducible apply va_cb) <;> walk_at "va")
  | ((with_reducible apply va_call) <;> walk_at "va")
  | ((with_reducible apply an_test) <;> walk_at "va")
  | ((with_reducible apply an_B) <;> walk_at "va")
  | ((with_reducible apply an_not) <;> walk_at "va")
  | ((with_reducible apply va_chain) <;> walk_at "va")
  | ((with_reducible apply mk_lst) <;> first | walk_at "va" | (show _ ≤ 100000; decide))
  | ((with_reducible apply mk_tup) <;> first | walk_at "va" | (show _ ≤ 100000; decide))
  | ((with_reducible apply mk_cb) <;> walk_at "va")
  | ((with_reducible apply mk_call) <;> walk_at "va")
  | with_reducible exact rv_I0
  | with_reducible exact rv_eqI
  | with_reducible exact rv_neI
  | with_reducible exact ru_neg
  | with_reducible exact rc_int1
  | with_reducible exact rc_abs
  | with_reducible exact rc_max2
  | with_reducible exact rc_min2
  | ((with_reducible apply rc_sum); assumption)
  | ((with_reducible apply rc_lenLI); assumption)
  | ((with_reducible apply rc_lenTI); assumption)
  | ((with_reducible apply rc_lenL); assumption)
  | ((with_reducible apply rc_lenT); assumption)
  | ((with_reducible apply rv_ixL) <;> assumption)
  | ((with_reducible apply rv_ixT) <;> assumption)
  | ((with_reducible apply rv_ixSL) <;> assumption)
  | ((with_reducible apply rv_ixST) <;> assumption)
  | ((with_reducible apply rv_inL); assumption)
  | ((with_reducible apply rv_inT); assumption)
  | ((with_reducible apply rv_ninL); assumption)
  | ((with_reducible apply rv_ninT); assumption)
  | ((with_reducible apply rn_listL); assumption)
  | ((with_reducible apply rn_listT); assumption)
  | ((with_reducible apply rn_tupleL); assumption)
  | assumption)
/-- a method that is called with keywords alone -/
structure MetK (P : Program) (w : World) (K : PySem.W.Frag) (mg : Str → Option Value) (base : Heap) (k : Nat) (C : Addr) (m : Str) (sp : Sp) (f : Addr) (fd : FuncData) (ps ks : List Str) : Prop where
  me : Meth K C m f
  fn : FnOk P w K mg base CX0 k f fd ps sp
  bd : KBn K fd ps 1 ks (fun us ws => us ++ ws) (fun vs zs => vs ++ zs)
def spChosen (C : Addr) : Sp := fun vs H Q _ => ND H ∧ ∃ r p, vs = [.ref r, .ref p] ∧ Q (.ref p) H
def PosL (ps ch : List Int) : Prop := ∀ x ∈ ch, 0 ≤ x ∧ x ≤ (ps.length : Int)
def spGap (C : Addr) : Sp := fun vs H Q _ => ND H ∧ ∃ r ps gs p ch k, vs = [.ref r, .ref p, .int k] ∧ RingAt C H r ps gs ∧ H p = some (.tup (ch.map V.int)) ∧ PosL ps ch ∧ (0 ≤ k ∧ k < (ch.length : Int)) ∧ Q (.int (gap ps ch k)) H
def spGG (C : Addr) : Sp := fun vs H Q _ => ND H ∧ ∃ r ps gs p ch, vs = [.ref r, .ref p] ∧ RingAt C H r ps gs ∧ H p = some (.tup (ch.map V.int)) ∧ PosL ps ch ∧ ch ≠ [] ∧ ch.length ≤ 10000 ∧ Q (.int (maxL (gaps ps ch))) H
def spCost (C : Addr) : Sp := fun vs H Q _ => ND H ∧ ∃ r ps gs p ch, vs = [.ref r, .ref p] ∧ RingAt C H r ps gs ∧ H p = some (.tup (ch.map V.int)) ∧ PosL ps ch ∧ ch ≠ [] ∧ ch.length ≤ 10000 ∧ Q (.int (cost ps ch)) H
def spCheckRing : Sp := fun vs H Q _ => ND H ∧ ∃ a b v ps gs, vs = [.ref a, .ref b, v] ∧ H a = some (.lst (ps.map V.int)) ∧ H b = some (.lst (gs.map V.int)) ∧ Good ps gs ∧ (v = .non ∨ ∃ c zs, v = .ref c ∧ H c = some (.lst zs) ∧ zs.length = ps.length) ∧ Q .non H
def spSumsOf : Sp := fun vs H Q _ => ND H ∧ ∃ a ps, vs = [.ref a] ∧ H a = some (.lst (ps.map V.int)) ∧ ps.length ≤ 10000 ∧ ∀ p, H p = none → Q (.ref p) (upd H p (.tup ((sums ps).map V.int)))
theorem gi_pos {ps ch : List Int} (hc : PosL ps ch) {k : Int} (h0 : 0 ≤ k) (h : k < (ch.length : Int)) : 0 ≤ gi ch k ∧ gi ch k ≤ (ps.length : Int) := hc _ (gi_mem h0 h)
theorem non_ref (p : Addr) : decide (V.ref p = V.non) = false := decide_eq_false fun e => nomatch e
section
variable {P : Program} {w : World} {K : PySem.W.Frag} {mg : Str → Option Value} {base : Heap} {C f : Addr} {fd : FuncData}
theorem ok_R_chosen (T : Txt K mg C) (F : Fun K "_chosen" "Ring._chosen" s_R_chosen f fd) : FnOk P w K mg base CX0 1 f fd ["self", "doors"] (spChosen C) := by
  refine okF F sc_R_chosen (fun vs H Q E h => h.1) (fun vs H Q E h => ?_) (fun cdv A outer s H vs Q E hr h => ?_)
  · obtain ⟨_, r, p, rfl, _⟩ := h
    rfl
  · obtain ⟨nd, r, p, rfl, q⟩ := h
    refine ⟨_, (pss_cons (ps_if (pt_cmpR op_isN (pv 1) pe_non (nomark _)) (pss_one (ps_ret (pe_fld (pv 0) rfl))) pss_nil)
      (pss_one (ps_ret (pv 1)))), ?_⟩
    refine ⟨_, rfl, rfl, _, rfl, ?_⟩
    rw [non_ref]
    refine iteF ?_
    exact w_ret (va_var rfl) (rt_val (Ex.refl H) q)
theorem ok_R_gap (T : Txt K mg C) (F : Fun K "_gap" "Ring._gap" s_R_gap f fd) (c_R_whole : C8.Met P w K mg base 1 C "whole" (spWhole C) []) (c_R_far : C8.Met P w K mg base 2 C "far" (spFar C) []) : FnOk P w K mg base CX0 3 f fd ["self", "chosen", "place"] (spGap C) := by
  refine okF F sc_R_gap (fun vs H Q E h => h.1) (fun vs H Q E h => ?_) (fun cdv A outer s H vs Q E hr h => ?_)
  · obtain ⟨_, r, ps, gs, p, ch, k, rfl, _⟩ := h
    rfl
  · obtain ⟨nd, r, ps, gs, p, ch, k, rfl, R, hp, hc, hk, q⟩ := h
    refine ⟨_, (pss_cons (ps_if (pt_cmpR op_eq (pe_callB call_len_seq (by rfl) T.len bt_len (pa_cons (pv 1) pa_nil)) pe_int (nomark _)) (pss_one (ps_ret (C8.pe_mt0 c_R_whole hr (by decide) (pv 0)))) pss_nil)
      (pss_one (ps_ret (C8.pe_mt c_R_far hr (by decide) (pv 0) (pa_cons (pe_ix ix_tup (pv 1) (pv 2) (fun _ _ => rfl)) (pa_cons (pe_ix ix_tup (pv 1) (pe_op op_mod (pe_op op_add (pv 2) pe_int) (pe_callB call_len_seq (by rfl) T.len bt_len (pa_cons (pv 1) pa_nil))) (fun _ _ => rfl)) pa_nil)))))), ?_⟩
    have hs : SqT K H p (ch.map V.int) := SqT.of hp
    have e : gap ps ch k = if (ch.length : Int) = 1 then W ps else far ps (gi ch k) (gi ch ((k + 1) % (ch.length : Int))) := rfl
    refine w_when (by walk_at "va") (fun b => ?_) (fun b => ?_)
    · have b := of_decide_eq_true b
      refine w_ret (va_whole (va_var rfl) nd R) ?_
      rw [e, if_pos b] at q
      exact rt_val (Ex.refl H) q
    · have b := of_decide_eq_false b
      have m := emod_range (a := k + 1) (b := (ch.length : Int)) (by omega)
      have x1 := at_gi hk.1 hk.2
      have x2 := at_gi m.1 m.2
      have hc0 : (fun _ j : Int => 0 < j) (k + 1) (ch.length : Int) := by show 0 < (ch.length : Int); omega
      refine w_ret (va_far (va_var rfl) (vs_cons (va_op (va_var rfl) (va_var rfl) (rv_ixT hs x1)) (vs_cons (va_op (va_var rfl) (va_op (va_op (va_var rfl) va_c rv_I0) (by walk_at "va") (rv_I hc0)) (rv_ixT hs x2)) vs_nil)) nd R (gi_pos hc hk.1 hk.2) (gi_pos hc m.1 m.2)) ?_
      rw [e, if_neg b] at q
      exact rt_val (Ex.refl H) q
theorem ok_R_greatest_gap (T : Txt K mg C) (F : Fun K "greatest_gap" "Ring.greatest_gap" s_R_greatest_gap f fd) (c_R_chosen : C8.Met P w K mg base 1 C "_chosen" (spChosen C) []) (c_R_gap : C8.Met P w K mg base 3 C "_gap" (spGap C) []) : FnOk P w K mg base CX0 4 f fd ["self", "doors"] (spGG C) := by
  refine okF F sc_R_greatest_gap (fun vs H Q E h => h.1) (fun vs H Q E h => ?_) (fun cdv A outer s H vs Q E hr h => ?_)
  · obtain ⟨_, r, ps, gs, p, ch, rfl, _⟩ := h
    rfl
  · obtain ⟨nd, r, ps, gs, p, ch, rfl, R, hp, hc, hne, hz, q⟩ := h
    refine ⟨_, (pss_cons (ps_set (i := 2) sc_R_greatest_gap.nd rfl (Or.inr rfl) (C8.pe_mt c_R_chosen hr (by decide) (pv 0) (pa_cons (pv 1) pa_nil)))
      (pss_one (ps_ret (pe_callB (cr_max rfl) (by rfl) T.max bt_max (pa_cons (pe_lc (own := [("place", 3)]) (g := gName 3) (tt := tYes) rfl sc_R_greatest_gap.nd (pi_range1 (by rfl) T.range (pa_cons (pe_callB call_len_seq (by rfl) T.len bt_len (pa_cons (pv 2) pa_nil)) pa_nil)) (blkOk_by (N := ["self", "doors", "chosen", "place"]) (sc := defScope s_R_greatest_gap) (by decide +kernel)) (fun _ _ _ _ _ => pg_name (i := 3) sc_R_greatest_gap.nd rfl (Or.inl rfl)) (fun _ _ _ _ _ => pts_nil) (fun _ _ _ _ _ => (C8.pe_mt c_R_gap hr (by decide) (pv 0) (pa_cons (pv 2) (pa_cons (pv 3) pa_nil))))) pa_nil))))), ?_⟩
    obtain ⟨dx, a, b, c, d, h1, h2, h3, h4⟩ := id R
    have hs : SqT K H p (ch.map V.int) := SqT.of hp
    refine w_asg (va_meth (va_var rfl) h1 no_chosen (vs_cons (va_var rfl) vs_nil) (fun Q E q => ⟨nd, r, p, rfl, q⟩)) ?_
    refine r_ret (r_cb (r_cons ((mk_lcR (n := ch.length) (fun k => V.int (gap ps ch (k : Int))) (by walk_at "va") (by omega) (fun _ => rfl) (fun i D ys hD hi => ?_)).go fun D hD => r_nil ?_)))
    · have hpD : p ≠ D := ne_of_none hp hD
      obtain ⟨dx', a', b', c', d', g1, g2, g3, g4⟩ := RingAt.ex (Ex.new hD) R
      exact va_meth (va_var rfl) g1 no_gap (vs_cons (va_var rfl) (vs_cons (va_var rfl) vs_nil))
        (fun Q E q => ⟨nd_lst nd, r, ps, gs, p, ch, (i : Int), rfl, RingAt.ex (Ex.new hD) R, (by rw [upd_ne hpD]; exact hp), hc, ⟨by omega, by omega⟩, q⟩)
    · have e : (List.range ch.length).map (fun (k : Nat) => V.int (gap ps ch (k : Int))) = (gaps ps ch).map V.int := by
        unfold gaps
        rw [List.map_map]
        rfl
      rw [e]
      exact rc_max1 (SqL.of upd_same) (gaps_ne hne) _ (rt_val (Ex.new hD) q)
theorem ok_R_cost {f2 : Addr} {fd2 : FuncData} (T : Txt K mg C) (F : Fun K "cost" "Ring.cost" s_R_cost f fd) (c_R_whole : C8.Met P w K mg base 1 C "whole" (spWhole C) []) (c_R_greatest_gap : MetK P w K mg base 4 C "greatest_gap" (spGG C) f2 fd2 ["self", "doors"] ["doors"]) : FnOk P w K mg base CX0 5 f fd ["self", "doors"] (spCost C) := by
  refine okF F sc_R_cost (fun vs H Q E h => h.1) (fun vs H Q E h => ?_) (fun cdv A outer s H vs Q E hr h => ?_)
  · obtain ⟨_, r, ps, gs, p, ch, rfl, _⟩ := h
    rfl
  · obtain ⟨nd, r, ps, gs, p, ch, rfl, R, hp, hc, hne, hz, q⟩ := h
    refine ⟨_, (pss_one (ps_ret (pe_op op_sub (C8.pe_mt0 c_R_whole hr (by decide) (pv 0)) (Fr0.pe_methKw (pv 0) T.cl c_R_greatest_gap.me c_R_greatest_gap.fn (hr.mono (by decide)) c_R_greatest_gap.bd pass0 (pk_cons (pv 1) pk_nil))))), ?_⟩
    obtain ⟨dx, a, b, c, d, h1, h2, h3, h4⟩ := id R
    refine va_whole (va_var rfl) nd R _ ?_
    refine ⟨_, rfl, r, dx, _, rfl, h1, no_gg, _, rfl, rfl, nd, r, ps, gs, p, ch, rfl, R, hp, hc, hne, hz, ?_⟩
    exact rv_I0 _ (rt_val (Ex.refl H) q)
end
end Fp

/-! ## D3 -/
set_option Elab.async false
set_option linter.all false
set_option maxRecDepth 100000
set_option maxHeartbeats 4000000
namespace Fp
open PySem L2 Fv
open Evl (Ex Ex.refl Ex.trans Ex.new fresh_back ex_rd ex_l ex_t)
open Fw
local macro_rules | `(tactic| walk_at "va") => `(tactic| first
  | with_reducible exact va_c
  | ((with_reducible apply va_var); exact rfl)
  | with_reducible exact vs_nil
  | ((with_reducible apply vs_cons) <;> walk_at "va")
  | ((with_reducible apply va_op) <;> walk_at "va")
  | ((with_reducible apply va_un) <;> walk_at "va")
  | ((with_reducible apply va_cb) <;> walk_at "va")
  | ((with_reducible apply va_call) <;> walk_at "va")
  | ((with_reducible apply an_test) <;> walk_at "va")
  | ((with_reducible apply an_B) <;> walk_at "va")
  | ((with_reducible apply an_not) <;> walk_at "va")
  | ((with_reducible apply va_chain) <;> walk_at "va")
  | ((with_reducible apply mk_lst) <;> first | walk_at "va" | (show _ ≤ 100000; decide))
  | ((with_reducible apply mk_tup) <;> first | walk_at "va" | (show _ ≤ 100000; decide))
  | ((with_reducible apply mk_cb) <;> walk_at "va")
  | ((with_reducible apply mk_call) <;> walk_at "va")
  | with_reducible exact rv_I0
  | with_reducible exact rv_eqI
  | with_reducible exact rv_neI
  | with_reducible exact ru_neg
  | with_reducible exact rc_int1
  | with_reducible exact rc_abs
  | with_reducible exact rc_max2
  | with_reducible exact rc_min2
  | ((with_reducible apply rc_sum); assumption)
  | ((with_reducible apply rc_lenLI); assumption)
  | ((with_reducible apply rc_lenTI); assumption)
  | ((with_reducible apply rc_lenL); assumption)
  | ((with_reducible apply rc_lenT); assumption)
  | ((with_reducible apply rv_ixL) <;> assumption)
  | ((with_reducible apply rv_ixT) <;> assumption)
  | ((with_reducible apply rv_ixSL) <;> assumption)
  | ((with_reducible apply rv_ixST) <;> assumption)
  | ((with_reducible apply rv_inL); assumption)
  | ((with_reducible apply rv_inT); assumption)
  | ((with_reducible apply rv_ninL); assumption)
  | ((with_reducible apply rv_ninT); assumption)
  | ((with_reducible apply rn_listL); assumption)
  | ((with_reducible apply rn_listT); assumption)
  | ((with_reducible apply rn_tupleL); assumption)
  | assumption)
/-! ### a ring is made -/
abbrev rNotNone : R2 := fun x y H Q => y = .non ∧ Q (.bl (!decide (x = .non))) H
abbrev rIsNone : R2 := fun x y H Q => y = .non ∧ Q (.bl (decide (x = .non))) H
section
variable {K : PySem.W.Frag} {σ : L2.St} {H : Hp} {te ta tv : TE} {ts : TA} {x y : V} {a C dx : Addr} {fs : List (Str × V)} {f : Str} {o : HO} {D : Ends} {tz : TS} {ps : List Int}
theorem va_notN (h : Val te σ H x) : Val (tOp rNotNone te (tC .non)) σ H (.bl (!decide (x = .non))) := fun Q q => h _ ⟨rfl, q⟩
theorem va_isN (h : Val te σ H x) : Val (tOp rIsNone te (tC .non)) σ H (.bl (decide (x = .non))) := fun Q q => h _ ⟨rfl, q⟩
theorem an_minlt (h : Val te σ H (.ref a)) (hs : SqL K H a (ps.map V.int)) (hp : ∀ p ∈ ps, (1 : Int) ≤ p) (hn : ps ≠ []) :
    Ans (tTest (tOp (rI0 fun i j => .bl (decide (i < j))) (tCB (rMin K) (tCons te tNil)) (tC (.int 1)))) σ H false := fun Q q => h _ ⟨a, ps, rfl, hs, List.length_pos_iff.mpr hn, fun m h1 h2 => ⟨m, 1, rfl, rfl, false, by
  have := hp m h1
  show V.bl (decide (m < 1)) = V.bl false
  rw [decide_eq_false (by omega)], q⟩⟩
theorem w_fldV (h : Val tv σ H y) (ho : Val ta σ H (.ref a)) (hi : H a = some (.ins C dx fs)) (c : Cls K C) (n : NoAttr K C f) (hl : fs.length < 1000) (k : tz D σ (upd H a (.ins C dx (putF f y fs)))) : tSeq (sFld K ta tv f) tz D σ H :=
  h _ (ho _ ⟨a, C, dx, fs, rfl, hi, c, n, hl, k⟩)
theorem e_fldN (h : Mkn tv σ H o) (ho : ∀ H', Val ta σ H' (.ref a)) (hi : H a = some (.ins C dx fs)) (c : Cls K C) (n : NoAttr K C f) (hl : fs.length < 1000)
    (k : ∀ p, H p = none → D.nx σ (upd (upd H p o) a (.ins C dx (putF f (.ref p) fs)))) : sFld K ta tv f D σ H :=
  h _ fun p np => ho _ _ ⟨a, C, dx, fs, rfl, by rw [upd_ne (ne_of_none hi np)]; exact hi, c, n, hl, k p np⟩
theorem w_fldN (h : Mkn tv σ H o) (ho : ∀ H', Val ta σ H' (.ref a)) (hi : H a = some (.ins C dx fs)) (c : Cls K C) (n : NoAttr K C f) (hl : fs.length < 1000)
    (k : ∀ p, H p = none → tz D σ (upd (upd H p o) a (.ins C dx (putF f (.ref p) fs)))) : tSeq (sFld K ta tv f) tz D σ H := e_fldN (D := { D with nx := tz D }) h ho hi c n hl k
theorem w_fldF {p0 : Addr} {xs : List V} (h : VAs ts σ H [.ref p0]) (hs : SqL K H p0 xs) (ho : ∀ H', Val ta σ H' (.ref a)) (hi : H a = some (.ins C dx fs)) (c : Cls K C) (n : NoAttr K C f) (hl : fs.length < 1000)
    (k : ∀ p ob, ob.dict = none → H p = none → tz D σ (upd (upd H p (.frz ob (.tup xs))) a (.ins C dx (putF f (.ref p) fs)))) : tSeq (sFld K ta (tCB (Fr0.rTupF K) ts) f) tz D σ H :=
  h _ ⟨p0, xs, rfl, hs, fun p ob hd np => ho _ _ ⟨a, C, dx, fs, rfl, by rw [upd_ne (ne_of_none hi np)]; exact hi, c, n, hl, k p ob hd np⟩⟩
theorem mk_tupRg {n : Nat} (h : Val te σ H (.int (n : Int))) (hn : n ≤ 100000) : Mkn (tTupRg (tRg1 te)) σ H (.tup (rgV 0 (n : Int))) := fun Q q => h _ ⟨n, rfl, RgOk.of_le (by omega) (by omega) (by omega) (by omega), q⟩
end
theorem putF_len (f : Str) (v : V) : ∀ fs : List (Str × V), (putF f v fs).length ≤ fs.length + 1
  | [] => by simp [putF]
  | (g, x) :: r => by
    unfold putF
    split
    · simp
    · have := putF_len f v r
      simp only [List.length_cons]
      omega
/-- behind H0 the object at x alone has changed, what is new is plain -/
structure Wk (H0 H : Hp) (x : Addr) : Prop where
  keep : ∀ q o, q ≠ x → H0 q = some o → H q = some o
  new : ∀ q o, H0 q = none → H q = some o → Pl o
theorem Wk.refl (H : Hp) (x : Addr) : Wk H H x := ⟨fun _ _ _ h => h, fun q o h1 h2 => by rw [h1] at h2; cases h2⟩
theorem Wk.at {H0 H : Hp} {x : Addr} {o u : HO} (k : Wk H0 H x) (hx : H0 x = some u) : Wk H0 (upd H x o) x := ⟨fun q p n h => by rw [upd_ne n]; exact k.keep q p n h, fun q p h1 h2 => by
  have n : q ≠ x := fun e => by rw [e, hx] at h1; cases h1
  rw [upd_ne n] at h2
  exact k.new q p h1 h2⟩
theorem Wk.add {H0 H : Hp} {x p : Addr} {o : HO} (k : Wk H0 H x) (hp : H p = none) (po : Pl o) : Wk H0 (upd H p o) x := ⟨fun q u n h => by rw [upd_ne (ne_of_none (k.keep q u n h) hp)]; exact k.keep q u n h, fun q u h1 h2 => by
  by_cases e : q = p
  · rw [e, upd_same] at h2
    cases h2
    exact po
  · rw [upd_ne e] at h2
    exact k.new q u h1 h2⟩
def spInit (C : Addr) : Sp := fun vs H Q _ => ND H ∧ ∃ x dx a b v ps gs, vs = [.ref x, .ref a, .ref b, v] ∧ H x = some (.ins C dx []) ∧ H a = some (.lst (ps.map V.int)) ∧ H b = some (.lst (gs.map V.int)) ∧ Good ps gs ∧
  (v = .non ∨ ∃ c zs, v = .ref c ∧ H c = some (.lst zs) ∧ zs.length = ps.length) ∧ ps.length ≤ 10000 ∧ ∀ H2, Wk H H2 x → RingAt C H2 x ps gs → (∃ fs, H2 x = some (.ins C dx fs)) → Q .non H2
theorem Good.len {ps gs : List Int} (g : Good ps gs) : 0 < ps.length := by
  cases h : gs with
  | nil => exact absurd h g.ne
  | cons x r =>
    have h1 := g.lo x (by rw [h]; exact List.mem_cons_self ..)
    have h2 := g.hi x (by rw [h]; exact List.mem_cons_self ..)
    omega
section
variable {P : Program} {w : World} {K : PySem.W.Frag} {mg : Str → Option Value} {base : Heap} {C f : Addr} {fd : FuncData}
theorem ok_P_check_ring (T : Txt K mg C) (F : Fun K "check_ring" "check_ring" s_P_check_ring f fd) : FnOk P w K mg base CX0 1 f fd ["prices", "doors", "nodes"] spCheckRing := by
  refine okF F sc_P_check_ring (fun vs H Q E h => h.1) (fun vs H Q E h => ?_) (fun cdv A outer s H vs Q E hr h => ?_)
  · obtain ⟨_, a, b, v, ps, gs, rfl, _⟩ := h
    rfl
  · obtain ⟨nd, a, b, v, ps, gs, rfl, ha, hb, g, hv, q⟩ := h
    refine ⟨_, (pss_cons (ps_if (PW.pt (pw_or (pt_cmpR op_eq (pe_callB call_len_seq (by rfl) T.len bt_len (pa_cons (pv 0) pa_nil)) pe_int (nomark _)) (pw_or (pt_cmpR op_lt (pe_callB (cr_min rfl) (by rfl) T.min bt_min (pa_cons (pv 0) pa_nil)) pe_int (nomark _)) (pw_or1 (pt_cmpR op_eq (pe_callB call_len_seq (by rfl) T.len bt_len (pa_cons (pv 1) pa_nil)) pe_int (nomark _)))))) (pss_one ps_never) pss_nil)
      (pss_cons (ps_set (i := 3) sc_P_check_ring.nd rfl (Or.inl rfl) (pe_un un_neg pe_int))
      (pss_cons (ps_for PassesOwn.never rfl (pi_list (pv 1)) (pg_name (i := 4) sc_P_check_ring.nd rfl (Or.inl rfl)) (pss_cons (ps_if (pt_not (pt_chain op_lt op_lt (pv 3) (pv 4) (pe_callB call_len_seq (by rfl) T.len bt_len (pa_cons (pv 0) pa_nil)))) (pss_one ps_never) pss_nil)
        (pss_one (ps_set (i := 3) sc_P_check_ring.nd rfl (Or.inl rfl) (pv 4)))))
      (pss_one (ps_if (PW.pt (pw_and (pt_cmpR op_notN (pv 2) pe_non (nomark _)) (pw_and1 (pt_cmpR op_ne (pe_callB call_len_seq (by rfl) T.len bt_len (pa_cons (pv 2) pa_nil)) (pe_callB call_len_seq (by rfl) T.len bt_len (pa_cons (pv 0) pa_nil)) (nomark _))))) (pss_one ps_never) pss_nil))))), ?_⟩
    have sa : SqL K H a (ps.map V.int) := SqL.of ha
    have sb : SqL K H b (gs.map V.int) := SqL.of hb
    have hl := Good.len g
    have hgl : 0 < gs.length := List.length_pos_iff.mpr g.ne
    have t1 : Ans (tTest (tOp rEq (tCB (kLen K) (tCons (tVar 0) tNil)) (tC (.int 0)))) (start ["prices", "doors", "nodes", "before", "door"] [.ref a, .ref b, v]) H (decide ((ps.length : Int) = 0)) := by walk_at "va"
    have t3 : Ans (tTest (tOp rEq (tCB (kLen K) (tCons (tVar 1) tNil)) (tC (.int 0)))) (start ["prices", "doors", "nodes", "before", "door"] [.ref a, .ref b, v]) H (decide ((gs.length : Int) = 0)) := by walk_at "va"
    have e0 : (decide ((ps.length : Int) = 0) || (false || decide ((gs.length : Int) = 0))) = false := by
      rw [decide_eq_false (by omega), decide_eq_false (by omega)]
      rfl
    refine w_when (an_is (an_or t1 fun _ => an_or (an_minlt (va_var rfl) sa g.pos (by intro e; rw [e] at hl; exact absurd hl (by decide))) fun _ => t3) e0) (fun z => by cases z) (fun _ => ?_)
    refine w_asg (va_un va_c ru_neg) ?_
    refine w_forL (va_var rfl) sb (fun i σ H' => ∃ (bf : Int) (d : Option V), σ = [some (.ref a), some (.ref b), some v, some (.int bf), d] ∧ H' = H ∧ ∀ z, gs[i]? = some z → bf < z)
      ⟨-1, none, rfl, rfl, fun z hz => by have := g.lo z (List.mem_of_getElem? hz); omega⟩ (fun i σ H' _ ⟨_, _, _, e, _⟩ => by rw [e]; exact sb) ?_ ?_
    · rintro i x σ H' hx ⟨bf, d, rfl, rfl, hbf⟩
      rw [List.getElem?_map] at hx
      cases hz : gs[i]? with
      | none => rw [hz] at hx; cases hx
      | some z =>
        rw [hz] at hx
        cases hx
        have h1 := hbf z hz
        have h2 := g.hi z (List.mem_of_getElem? hz)
        refine w_when (b := false) (an_is (by walk_at "va") (show (!(decide (bf < z) && decide (z < (ps.length : Int)))) = false by rw [decide_eq_true h1, decide_eq_true h2]; rfl)) (fun z => by cases z) (fun _ => ?_)
        refine e_asg (va_var rfl) ?_
        exact ⟨z, _, rfl, rfl, fun y hy => asc_get g.asc hz hy⟩
    · rintro σ H' ⟨bf, d, rfl, rfl, hbf⟩
      rcases hv with rfl | ⟨c, zs, rfl, hc, hzl⟩
      · refine e_when (b := false) (an_is (an_and (c := false) (an_test (va_notN (va_var rfl))) (fun z => by cases z)) rfl) (fun z => by cases z) (fun _ => ?_)
        exact rt_val (Ex.refl _) q
      · have sc : SqL K H' c zs := SqL.of hc
        have sa' : SqL K H' a (ps.map V.int) := sa
        refine e_when (b := false) (an_is (an_and (an_test (va_notN (va_var rfl))) (fun _ => an_test (va_op (by walk_at "va") (va_cb (by walk_at "va") (rc_lenLI sa')) rv_neI))) (by rw [hzl]; simp)) (fun z => by cases z) (fun _ => ?_)
        exact rt_val (Ex.refl _) q
theorem ok_P_sums_of (T : Txt K mg C) (F : Fun K "sums_of" "sums_of" s_P_sums_of f fd) : FnOk P w K mg base CX0 1 f fd ["prices"] spSumsOf := by
  refine okF F sc_P_sums_of (fun vs H Q E h => h.1) (fun vs H Q E h => ?_) (fun cdv A outer s H vs Q E hr h => ?_)
  · obtain ⟨_, a, ps, rfl, _⟩ := h
    rfl
  · obtain ⟨nd, a, ps, rfl, ha, hz, q⟩ := h
    refine ⟨_, (pss_cons (ps_set (i := 1) sc_P_sums_of.nd rfl (Or.inl rfl) (pe_lst (pa_cons pe_int pa_nil)))
      (pss_cons (ps_for PassesOwn.never rfl (pi_list (pv 0)) (pg_name (i := 2) sc_P_sums_of.nd rfl (Or.inl rfl)) (pss_one (ps_expr (pe_bm PySem.F.plainAttrs_list PySem.F.slot_list_append PySem.F.type_list_append mt_append (pv 1) (pa_cons (pe_op op_add (pe_ix ix_list (pv 1) (pe_un un_neg pe_int) (fun _ _ => rfl)) (pv 2)) pa_nil)))))
      (pss_one (ps_ret (pe_callTy call_tuple_of (by rfl) T.tuple bt_tuple (pa_cons (pv 1) pa_nil)))))), ?_⟩
    refine w_asgN (by walk_at "va") (fun l nl => ?_)
    have nal : a ≠ l := ne_of_none ha nl
    have sa : SqL K H a (ps.map V.int) := SqL.of ha
    have ex : Ex H (upd H l (.lst [.int 0])) := Ex.new nl
    refine w_forL (va_var rfl) (ex_l ex sa) (fun i σ H' => ∃ d : Option V, σ = [some (.ref a), some (.ref l), d] ∧ H' = upd H l (.lst ((List.range (i + 1)).map fun (k : Nat) => V.int (S ps (k : Int)))))
      ⟨none, rfl, rfl⟩ (fun i σ H' _ ⟨_, _, e⟩ => by rw [e]; exact ex_l (Ex.new nl) sa) ?_ ?_
    · rintro i x σ H' hx ⟨d, rfl, rfl⟩
      rw [List.getElem?_map] at hx
      cases hy : ps[i]? with
      | none => rw [hy] at hx; cases hx
      | some y =>
        rw [hy] at hx
        cases hx
        have el : atI ((List.range (i + 1)).map fun (k : Nat) => V.int (S ps (k : Int))) (-1) = some (.int (S ps (i : Int))) := by
          rw [List.range_succ, List.map_append]
          exact atI_last _ _
        have hi := (List.getElem?_eq_some_iff.mp hy).1
        refine e_app upd_same (va_var rfl) (va_op (va_op (va_var rfl) (va_un va_c ru_neg) (rv_ixL (SqL.of upd_same) el)) (va_var rfl) rv_I0) (by rw [List.length_map, List.length_range]; omega) ?_
        refine ⟨_, rfl, ?_⟩
        rw [upd_upd, List.range_succ (n := i + 1), List.map_append]
        have es := S_succ hy
        have e2 : (((i + 1 : Nat) : Int)) = (i : Int) + 1 := by omega
        show upd H l (HO.lst (_ ++ [V.int (S ps (i : Int) + y)])) = upd H l (HO.lst (_ ++ [V.int (S ps ((i + 1 : Nat) : Int))]))
        rw [e2, es]
    · rintro σ H' ⟨d, rfl, rfl⟩
      have sl : SqL K (upd H l (.lst ((List.range ((ps.map V.int).length + 1)).map fun (k : Nat) => V.int (S ps (k : Int))))) l ((List.range ((ps.map V.int).length + 1)).map fun (k : Nat) => V.int (S ps (k : Int))) := SqL.of upd_same
      refine w_retN (mk_cb (by walk_at "va") (rn_tupleL sl)) (fun p np => ?_)
      have e : (List.range ((ps.map V.int).length + 1)).map (fun (k : Nat) => V.int (S ps (k : Int))) = (sums ps).map V.int := by
        unfold sums
        rw [List.map_map, List.length_map]
        rfl
      rw [e] at np ⊢
      have npH : H p = none := fresh_back (Ex.new nl) np
      exact rt_new npH ((Ex.new nl).trans (Ex.new np)) upd_same True.intro (q p npH)
theorem ok_R_init (T : Txt K mg C) (F : Fun K "__init__" "Ring.__init__" s_R_init f fd) (c_P_check_ring : C8.Cal P w K mg base 1 "check_ring" spCheckRing []) (c_P_sums_of : C8.Cal P w K mg base 1 "sums_of" spSumsOf []) :
    FnOk P w K mg base CX0 2 f fd ["self", "prices", "doors", "nodes"] (spInit C) := by
  refine F.ok sc_R_init (fun vs H Q E h => ?_) (fun cdv A outer s H vs Q E hr h => ?_)
  · obtain ⟨_, x, dx, a, b, v, ps, gs, rfl, _⟩ := h
    rfl
  · obtain ⟨nd, x, dx, a, b, v, ps, gs, rfl, hx, ha, hb, g, hv, hz, q⟩ := h
    refine ⟨_, (pss_cons (ps_expr (C8.pe_c c_P_check_ring hr (by decide) (by rfl) (pa_cons (pv 1) (pa_cons (pv 2) (pa_cons (pv 3) pa_nil)))))
      (pss_cons (ps_fld (pv 0) (pe_callB call_len_seq (by rfl) T.len bt_len (pa_cons (pv 1) pa_nil)) rfl)
      (pss_cons (ps_fld (pv 0) (pe_callTy call_tuple_of (by rfl) T.tuple bt_tuple (pa_cons (pv 1) pa_nil)) rfl)
      (pss_cons (ps_fld (pv 0) (pe_callTy Fr0.cr_tupF (by rfl) T.tuple bt_tuple (pa_cons (pv 2) pa_nil)) rfl)
      (pss_cons (ps_if (pt_cmpR op_isN (pv 3) pe_non (nomark _)) (pss_one (ps_fld (pv 0) (pe_tupRg rfl (by rfl) T.tuple (prg_1 (by rfl) T.range (pe_callB call_len_seq (by rfl) T.len bt_len (pa_cons (pv 1) pa_nil)))) rfl)) (pss_one (ps_fld (pv 0) (pe_callTy call_tuple_of (by rfl) T.tuple bt_tuple (pa_cons (pv 3) pa_nil)) rfl)))
      (pss_one (ps_fld (pv 0) (C8.pe_c c_P_sums_of hr (by decide) (by rfl) (pa_cons (pv 1) pa_nil)) rfl))))))), ?_⟩
    have nax : a ≠ x := ne_of ha hx (by intro e; cases e)
    have nbx : b ≠ x := ne_of hb hx (by intro e; cases e)
    have sa0 : SqL K H a (ps.map V.int) := SqL.of ha
    refine w_drop (va_call (z := .non) (vs_cons (va_var rfl) (vs_cons (va_var rfl) (vs_cons (va_var rfl) vs_nil))) (fun Q E q => ⟨nd, a, b, v, ps, gs, rfl, ha, hb, g, hv, q⟩)) ?_
    refine w_fldV (va_cb (vs_cons (va_var rfl) vs_nil) (rc_lenLI sa0)) (va_var rfl) hx T.cl T.n1 (by decide) ?_
    have k1 : Wk H (upd H x (.ins C dx (putF "size" (.int (ps.length : Int)) []))) x := (Wk.refl H x).at hx
    have sa1 := SqL.of (K := K) (k1.keep a _ nax ha)
    refine w_fldN (mk_cb (vs_cons (va_var rfl) vs_nil) (rn_tupleL sa1)) (fun _ => va_var rfl) upd_same T.cl T.n2 (Nat.lt_of_le_of_lt (putF_len _ _ _) (by decide)) (fun p1 np1 => ?_)
    have k2 := (k1.add np1 (o := .tup (ps.map V.int)) True.intro).at (o := .ins C dx (putF "prices" (.ref p1) (putF "size" (.int (ps.length : Int)) []))) hx
    have sb2 := SqL.of (K := K) (k2.keep b _ nbx hb)
    refine w_fldF (vs_cons (va_var rfl) vs_nil) sb2 (fun _ => va_var rfl) upd_same T.cl T.n3 (Nat.lt_of_le_of_lt (putF_len _ _ _) (Nat.lt_of_le_of_lt (Nat.succ_le_succ (putF_len _ _ _)) (by decide))) (fun p2 ob hob np2 => ?_)
    have k3 := (k2.add np2 (o := .frz ob (.tup (gs.map V.int))) True.intro).at (o := .ins C dx (putF "doors" (.ref p2) (putF "prices" (.ref p1) (putF "size" (.int (ps.length : Int)) [])))) hx
    have sa3 := SqL.of (K := K) (k3.keep a _ nax ha)
    have np1x : p1 ≠ x := fun e => by rw [e, upd_same] at np1; cases np1
    have np2x : p2 ≠ x := fun e => by rw [e, upd_same] at np2; cases np2
    have np21 : p1 ≠ p2 := fun e => by
      rw [← e, upd_ne np1x, upd_same] at np2
      cases np2
    -- what is left, from the place of the nodes on
    have fin : ∀ p3 (o : HO), Pl o → ∀ H3, H3 = (upd (upd (upd (upd H x (.ins C dx (putF "size" (.int (ps.length : Int)) []))) p1 (.tup (ps.map V.int))) x (.ins C dx (putF "prices" (.ref p1) (putF "size" (.int (ps.length : Int)) [])))) p2 (.frz ob (.tup (gs.map V.int)))) → ∀ H4, H4 = upd H3 x (.ins C dx (putF "doors" (.ref p2) (putF "prices" (.ref p1) (putF "size" (.int (ps.length : Int)) [])))) → Wk H H4 x → H4 p3 = none →
        (sFld K (tVar 0) (tCall spSumsOf [] E0 (tCons (tVar 1) tNil)) "_sums") { nx := fun _ H' => Q .non H', rt := Q } (start ["self", "prices", "doors", "nodes"] [.ref x, .ref a, .ref b, v]) (upd (upd H4 p3 o) x (.ins C dx (putF "nodes" (.ref p3) (putF "doors" (.ref p2) (putF "prices" (.ref p1) (putF "size" (.int (ps.length : Int)) [])))))) := by
      intro p3 o po H3 e3 H4 e4 k4 np3
      have k5 := (k4.add np3 po).at (o := .ins C dx (putF "nodes" (.ref p3) (putF "doors" (.ref p2) (putF "prices" (.ref p1) (putF "size" (.int (ps.length : Int)) []))))) hx
      have nd5 : ND (upd (upd H4 p3 o) x (.ins C dx (putF "nodes" (.ref p3) (putF "doors" (.ref p2) (putF "prices" (.ref p1) (putF "size" (.int (ps.length : Int)) [])))))) := fun z u hz => by
        by_cases ez : z = x
        · rw [ez, upd_same] at hz
          cases hz
          exact True.intro
        · cases h0 : H z with
          | none =>
            exact ok1_pl (k5.new z u h0 hz)
          | some u0 =>
            have := k5.keep z u0 ez h0
            rw [this] at hz
            cases hz
            exact nd z _ h0
      refine e_fldN (mk_call (vs_cons (va_var rfl) vs_nil) (fun Q E q => ⟨nd5, a, ps, rfl, k5.keep a _ nax ha, hz, q⟩)) (fun _ => va_var rfl) upd_same T.cl T.n5 ?_ (fun p4 np4 => ?_)
      · exact Nat.lt_of_le_of_lt (putF_len _ _ _) (Nat.lt_of_le_of_lt (Nat.succ_le_succ (putF_len _ _ _)) (Nat.lt_of_le_of_lt (Nat.succ_le_succ (Nat.succ_le_succ (putF_len _ _ _))) (Nat.lt_of_le_of_lt (Nat.succ_le_succ (Nat.succ_le_succ (Nat.succ_le_succ (putF_len _ _ _)))) (by decide))))
      · have k6 := (k5.add np4 (o := .tup ((sums ps).map V.int)) True.intro).at (o := .ins C dx (fsR (ps.length : Int) p1 p2 p3 p4)) hx
        have np4x : p4 ≠ x := fun e => by rw [e, upd_same] at np4; cases np4
        have h41 : H4 p1 = some (.tup (ps.map V.int)) := by rw [e4, e3, upd_ne np1x, upd_ne np21, upd_ne np1x, upd_same]
        have h42 : H4 p2 = some (.frz ob (.tup (gs.map V.int))) := by rw [e4, e3, upd_ne np2x, upd_same]
        have h51 : (upd (upd H4 p3 o) x (.ins C dx (putF "nodes" (.ref p3) (putF "doors" (.ref p2) (putF "prices" (.ref p1) (putF "size" (.int (ps.length : Int)) [])))))) p1 = some (.tup (ps.map V.int)) := by rw [upd_ne np1x, upd_ne (ne_of_none h41 np3)]; exact h41
        have h52 : (upd (upd H4 p3 o) x (.ins C dx (putF "nodes" (.ref p3) (putF "doors" (.ref p2) (putF "prices" (.ref p1) (putF "size" (.int (ps.length : Int)) [])))))) p2 = some (.frz ob (.tup (gs.map V.int))) := by rw [upd_ne np2x, upd_ne (ne_of_none h42 np3)]; exact h42
        refine q _ k6 ⟨dx, p1, p2, p3, p4, upd_same, ?_, ⟨ob, hob, ?_⟩, ?_⟩ ⟨_, upd_same⟩
        · rw [upd_ne np1x, upd_ne (ne_of_none h51 np4)]
          exact h51
        · rw [upd_ne np2x, upd_ne (ne_of_none h52 np4)]
          exact h52
        · rw [upd_ne np4x, upd_same]
    rcases hv with rfl | ⟨c, zs, rfl, hc, hzl⟩
    · refine w_if (b := true) (an_is (an_test (va_isN (va_var rfl))) (decide_eq_true rfl)) (fun _ => ?_) (fun z => by cases z)
      refine e_fldN (mk_tupRg (va_cb (vs_cons (va_var rfl) vs_nil) (rc_lenLI sa3)) (by omega)) (fun _ => va_var rfl) upd_same T.cl T.n4 ?_ (fun p3 np3 => ?_)
      · exact Nat.lt_of_le_of_lt (putF_len _ _ _) (Nat.lt_of_le_of_lt (Nat.succ_le_succ (putF_len _ _ _)) (Nat.lt_of_le_of_lt (Nat.succ_le_succ (Nat.succ_le_succ (putF_len _ _ _))) (by decide)))
      · exact fin p3 (.tup (rgV 0 (ps.length : Int))) True.intro _ rfl _ rfl k3 np3
    · have ncx : c ≠ x := ne_of hc hx (by intro e; cases e)
      have sc3 := SqL.of (K := K) (k3.keep c _ ncx hc)
      refine w_if (b := false) (an_is (an_test (va_isN (va_var rfl))) (non_ref c)) (fun z => by cases z) (fun _ => ?_)
      refine e_fldN (mk_cb (vs_cons (va_var rfl) vs_nil) (rn_tupleL sc3)) (fun _ => va_var rfl) upd_same T.cl T.n4 ?_ (fun p3 np3 => ?_)
      · exact Nat.lt_of_le_of_lt (putF_len _ _ _) (Nat.lt_of_le_of_lt (Nat.succ_le_succ (putF_len _ _ _)) (Nat.lt_of_le_of_lt (Nat.succ_le_succ (Nat.succ_le_succ (putF_len _ _ _))) (by decide)))
      · exact fin p3 (.tup zs) True.intro _ rfl _ rfl k3 np3
end
end Fp

/-! ## D4 -/
set_option Elab.async false
set_option linter.all false
set_option maxRecDepth 100000
set_option maxHeartbeats 4000000
namespace Fp
open PySem L2 Fv
open Evl (Ex Ex.refl Ex.trans Ex.new fresh_back ex_rd ex_l ex_t)
open Fw
local macro_rules | `(tactic| walk_at "va") => `(tactic| first
  | with_reducible exact va_c
  | ((with_reducible apply va_var); exact rfl)
  | with_reducible exact vs_nil
  | ((with_reducible apply vs_cons) <;> walk_at "va")
  | ((with_reducible apply va_op) <;> walk_at "va")
  | ((with_reducible apply va_un) <;> walk_at "va")
  | ((with_reducible apply va_cb) <;> walk_at "va")
  | ((with_reducible apply va_call) <;> walk_at "va")
  | ((with_reducible apply an_test) <;> walk_at "va")
  | ((with_reducible apply an_B) <;> walk_at "va")
  | ((with_reducible apply an_not) <;> walk_at "va")
  | ((with_reducible apply va_chain) <;> walk_at "va")
  | ((with_reducible apply mk_lst) <;> first | walk_at "va" | (show _ ≤ 100000; decide))
  | ((with_reducible apply mk_tup) <;> first | walk_at "va" | (show _ ≤ 100000; decide))
  | ((with_reducible apply mk_cb) <;> walk_at "va")
  | ((with_reducible apply mk_call) <;> walk_at "va")
  | with_reducible exact rv_I0
  | with_reducible exact rv_eqI
  | with_reducible exact rv_neI
  | with_reducible exact ru_neg
  | with_reducible exact rc_int1
  | with_reducible exact rc_abs
  | with_reducible exact rc_max2
  | with_reducible exact rc_min2
  | ((with_reducible apply rc_sum); assumption)
  | ((with_reducible apply rc_lenLI); assumption)
  | ((with_reducible apply rc_lenTI); assumption)
  | ((with_reducible apply rc_lenL); assumption)
  | ((with_reducible apply rc_lenT); assumption)
  | ((with_reducible apply rv_ixL) <;> assumption)
  | ((with_reducible apply rv_ixT) <;> assumption)
  | ((with_reducible apply rv_ixSL) <;> assumption)
  | ((with_reducible apply rv_ixST) <;> assumption)
  | ((with_reducible apply rv_inL); assumption)
  | ((with_reducible apply rv_inT); assumption)
  | ((with_reducible apply rv_ninL); assumption)
  | ((with_reducible apply rv_ninT); assumption)
  | ((with_reducible apply rn_listL); assumption)
  | ((with_reducible apply rn_listT); assumption)
  | ((with_reducible apply rn_tupleL); assumption)
  | assumption)
/-! ### the leaps of the program -/
section
variable {K : PySem.W.Frag} {σ : L2.St} {H : Hp} {te tl1 tl2 : TE} {ts : TA} {b : Addr} {gs : List Int} {D : Ends} {tz : TS} {i : Nat} {Q : VK} {xs ys : List V} {ob : Obj}
theorem cutV_from (xs : List V) (k : Nat) : cutV xs (some (k : Int)) none = xs.drop k := by
  unfold cutV
  rw [HT.sIx_nat, HT.sIx_none]
  by_cases h : k ≤ xs.length
  · rw [Nat.min_eq_left h]
    exact List.take_of_length_le (by rw [List.length_drop]; exact Nat.le_refl _)
  · rw [Nat.min_eq_right (by omega), List.drop_of_length_le (Nat.le_refl _), List.drop_of_length_le (by omega)]
    simp
theorem cutV_to (xs : List V) (k : Nat) : cutV xs none (some (k : Int)) = xs.take k := by
  unfold cutV
  rw [HT.sIx_nat, HT.sIx_none, Nat.sub_zero, List.drop_zero]
  by_cases h : k ≤ xs.length
  · rw [Nat.min_eq_left h]
  · rw [Nat.min_eq_right (by omega), List.take_length, List.take_of_length_le (by omega)]
theorem va_tix {p : Addr} {z : Int} {j : Nat} (h : Val te σ H (.ref p)) (hp : H p = some (.frz ob (.tup (gs.map V.int)))) (hd : ob.dict = none) (ha : VAs ts σ H [.int z]) (hj : gs[j]? = some z) (hno : ∀ m, m < j → gs[m]? ≠ some z) : Val (Fr0.tTix K te ts) σ H (.int (j : Int)) :=
  fun Q q => h _ ⟨⟨p, ob, _, rfl, hp, hd⟩, ha _ ⟨p, gs, z, j, rfl, rfl, sqF hp, hj, hno, q⟩⟩
theorem sl_any {lo hi : Option Int} (nd : ND H) (hb : SqT K H b xs) (k : ∀ q H1, Ex H H1 → ND H1 → SqT K H1 q (cutV xs lo hi) → Q (.ref q) H1) : rSlA K (.ref b) lo hi H Q := by
  refine ⟨b, xs, rfl, hb, fun h => k b H (Ex.refl H) nd ?_, fun _ p np => k p _ (Ex.new np) (nd_tup nd) (SqT.of upd_same)⟩
  have e : cutV xs lo hi = xs := by
    unfold cutV
    rw [h.1, h.2, List.drop_zero, Nat.sub_zero, List.take_length]
  rw [e]
  exact hb
theorem cat_any {a : Addr} (nd : ND H) (ha : SqT K H a xs) (hb : SqT K H b ys) (hz : xs.length + ys.length ≤ 100000) (k : ∀ q H1, Ex H H1 → ND H1 → SqT K H1 q (xs ++ ys) → Q (.ref q) H1) : rCatA K (.ref a) (.ref b) H Q := by
  refine ⟨a, b, xs, ys, rfl, rfl, ha, hb, Nat.le_trans hz (by decide), fun e => k b H (Ex.refl H) nd (by rw [e]; exact hb), fun _ e => k a H (Ex.refl H) nd (by rw [e, List.append_nil]; exact ha), fun _ _ p np => k p _ (Ex.new np) (nd_tup nd) (SqT.of upd_same)⟩
theorem sl_from {lo : Int} (h : Val te σ H (.ref b)) (h1 : Val tl1 σ H (.int lo)) (k : rSlA K (.ref b) (some lo) none H Q) : tSl (rSlA K) te (tPart tl1) tNoPart σ H Q := h _ (h1 _ ⟨lo, rfl, k⟩)
theorem sl_to {hi : Int} (h : Val te σ H (.ref b)) (h1 : Val tl1 σ H (.int hi)) (k : rSlA K (.ref b) none (some hi) H Q) : tSl (rSlA K) te tNoPart (tPart tl1) σ H Q := h _ (h1 _ ⟨hi, rfl, k⟩)
theorem w_ahead {j : Nat} (hb : SqT K H b (gs.map V.int)) (h : ∀ H', Ex H H' → Val te σ H' (.ref b)) (h1 : ∀ H', Val tl1 σ H' (.int ((j : Int) + 1))) (h2 : ∀ H', Val tl2 σ H' (.int (j : Int))) (hz : gs.length ≤ 1000) (nd : ND H)
    (k : ∀ q H1, Ex H H1 → ND H1 → SqT K H1 q ((gs.drop (j + 1) ++ gs.take j).map V.int) → tz D (σ.set i (some (.ref q))) H1) :
    tSeq (tAsg (tOp (rCatA K) (tSl (rSlA K) te (tPart tl1) tNoPart) (tSl (rSlA K) te tNoPart (tPart tl2))) (gName i)) tz D σ H := by
  refine r_seq (r_asg (r_op ?_))
  refine sl_from (h H (Ex.refl H)) (h1 H) ?_
  refine sl_any nd hb fun q1 H1 e1 nd1 s1 => ?_
  refine sl_to (h H1 e1) (h2 H1) ?_
  refine sl_any nd1 (ex_t e1 hb) fun q2 H2 e2 nd2 s2 => ?_
  refine cat_any nd2 (ex_t e2 s1) s2 ?_ fun q H3 e3 nd3 s3 => ?_
  · have a1 := cutV_length (gs.map V.int) (some ((j : Int) + 1)) none
    have a2 := cutV_length (gs.map V.int) none (some (j : Int))
    rw [List.length_map] at a1 a2
    omega
  · refine k q H3 ((e1.trans e2).trans e3) nd3 ?_
    have c1 : cutV (gs.map V.int) (some ((j : Int) + 1)) none = (gs.drop (j + 1)).map V.int := by
      have q := cutV_from (gs.map V.int) (j + 1)
      rw [List.map_drop, ← q]
      rfl
    rw [c1, cutV_to, ← List.map_take, ← List.map_append] at s3
    exact s3
end
def spLW (C : Addr) : Sp := fun vs H Q _ => ND H ∧ ∃ r ps gs s n L, vs = [.ref r, .int s, .int n, .int L] ∧ RingAt C H r ps gs ∧ Good ps gs ∧ gs.length ≤ 1000 ∧ s ∈ gs ∧
  ∀ p, H p = none → Q (.ref p) (upd H p (.lst ((leapsM ps gs L n s).map V.int)))
theorem idx_first {gs : List Int} {s : Int} (asc : gs.Pairwise (· < ·)) (h : s ∈ gs) : ∀ m, m < gs.idxOf s → gs[m]? ≠ some s := fun m hm e => by
  have h1 := at_idx h
  obtain ⟨a1, e1⟩ := List.getElem?_eq_some_iff.mp h1
  obtain ⟨a2, e2⟩ := List.getElem?_eq_some_iff.mp e
  have := List.pairwise_iff_getElem.mp asc m (gs.idxOf s) a2 a1 hm
  omega
theorem last_ints {f : List Int} (s : Int) (h : f ≠ []) : atI (f.map V.int) (-1) = some (.int (lastD s f)) := by
  refine at_last ?_
  rw [List.getLast?_map, lastD_at f s h]
  rfl
section
variable {P : Program} {w : World} {K : PySem.W.Frag} {mg : Str → Option Value} {base : Heap} {C f : Addr} {fd : FuncData}
theorem ok_P_leaps_within (T : Txt K mg C) (F : Fun K "leaps_within" "leaps_within" s_P_leaps_within f fd) (c_P_way_round : C8.Cal P w K mg base 3 "way_round" (spWay C) []) :
    FnOk P w K mg base CX0 4 f fd ["ring", "door", "lanes", "limit"] (spLW C) := by
  refine okF F sc_P_leaps_within (fun vs H Q E h => h.1) (fun vs H Q E h => ?_) (fun cdv A outer s0 H vs Q E hr h => ?_)
  · obtain ⟨_, r, ps, gs, s, n, L, rfl, _⟩ := h
    rfl
  · obtain ⟨nd, r, ps, gs, s, n, L, rfl, R, g, hz, hs, q⟩ := h
    refine ⟨_, (pss_cons (ps_set (i := 4) sc_P_leaps_within.nd rfl (Or.inl rfl) (Fr0.pe_tix (pe_fld (pv 0) rfl) (pa_cons (pv 1) pa_nil)))
      (pss_cons (ps_set (i := 5) sc_P_leaps_within.nd rfl (Or.inl rfl) (pe_op op_catA (pe_slice sl_tupA (pe_fld (pv 0) rfl) (po_some (pe_op op_add (pv 4) pe_int)) po_none) (pe_slice sl_tupA (pe_fld (pv 0) rfl) po_none (po_some (pv 4)))))
      (pss_cons (ps_set (i := 6) sc_P_leaps_within.nd rfl (Or.inl rfl) (pe_lst (pa_cons (pv 1) pa_nil)))
      (pss_cons (ps_set (i := 7) sc_P_leaps_within.nd rfl (Or.inl rfl) pe_int)
      (pss_cons (ps_while PassesOwn.never (pt_cmpR op_lt (pe_callB call_len_seq (by rfl) T.len bt_len (pa_cons (pv 6) pa_nil)) (pv 2) (nomark _)) (pss_cons (ps_set (i := 8) sc_P_leaps_within.nd rfl (Or.inl rfl) (pv 7))
        (pss_cons (ps_while PassesOwn.never (PW.pt (pw_and (pt_cmpR op_lt (pv 8) (pe_callB call_len_seq (by rfl) T.len bt_len (pa_cons (pv 5) pa_nil)) (nomark _)) (pw_and1 (pt_cmpR op_le (C8.pe_c c_P_way_round hr (by decide) (by rfl) (pa_cons (pv 0) (pa_cons (pe_ix ix_list (pv 6) (pe_un un_neg pe_int) (fun _ _ => rfl)) (pa_cons (pe_ix ix_tup (pv 5) (pv 8) (fun _ _ => rfl)) pa_nil)))) (pv 3) (nomark _))))) (pss_one (ps_set (i := 8) sc_P_leaps_within.nd rfl (Or.inl rfl) (pe_op op_add (pv 8) pe_int))))
        (pss_cons (ps_if (pt_cmpR op_eq (pv 8) (pv 7) (nomark _)) (pss_one (ps_ret (pv 6))) pss_nil)
        (pss_cons (ps_expr (pe_bm PySem.F.plainAttrs_list PySem.F.slot_list_append PySem.F.type_list_append mt_append (pv 6) (pa_cons (pe_ix ix_tup (pv 5) (pe_op op_sub (pv 8) pe_int) (fun _ _ => rfl)) pa_nil)))
        (pss_one (ps_set (i := 7) sc_P_leaps_within.nd rfl (Or.inl rfl) (pv 8))))))))
      (pss_one (ps_ret (pv 6)))))))), ?_⟩
    obtain ⟨dx, a, b, c, d, h1, h2, ⟨ob, hob, h3⟩, h4⟩ := id R
    refine w_asg (va_tix (va_fld (va_var rfl) h1 T.cl T.n3 fs_doors) h3 hob (vs_cons (va_var rfl) vs_nil) (at_idx hs) (idx_first g.asc hs)) ?_
    refine w_ahead (sqF h3) (fun H' e => va_fld (va_var rfl) (e _ _ h1) T.cl T.n3 fs_doors) (fun H' => va_op (va_var rfl) va_c rv_I0) (fun H' => va_var rfl) hz nd (fun qa H1 e1 nd1 sa => ?_)
    have hal := ahead_len hs
    have ea : (gs.drop (gs.idxOf s + 1) ++ gs.take (gs.idxOf s)) = ahead gs s := rfl
    rw [ea] at sa
    refine w_asgN (mk_lst (vs_cons (va_var rfl) vs_nil) (by show 1 ≤ 100000; decide)) (fun p np => ?_)
    refine w_asg va_c ?_
    have npH : H p = none := fresh_back e1 np
    have exf : ∀ f : List Int, Ex H (upd H1 p (.lst (f.map V.int))) := fun f => e1.trans (Ex.new np)
    have fin : ∀ f : List Int, leapsM ps gs L n s = f → Rt H Q (.ref p) (upd H1 p (.lst (f.map V.int))) := fun f e => by
      rw [← e]
      exact rt_new npH (exf _) upd_same True.intro (q p npH)
    refine w_while (fun m σ H' => ∃ (f : List Int) (pas : Nat) (x : Option V), σ = [some (.ref r), some (.int s), some (.int n), some (.int L), some (.int ((gs.idxOf s : Nat) : Int)), some (.ref qa), some (.ref p), some (.int (pas : Int)), x] ∧ H' = upd H1 p (.lst (f.map V.int)) ∧ Lst ps gs L n s f pas ∧ m = (ahead gs s).length - pas)
      ((ahead gs s).length - 0) ⟨[s], 0, none, rfl, rfl, lst_start hs, rfl⟩ ?_
    rintro m σ H' ⟨f, pas, x, rfl, rfl, l, rfl⟩
    have sf : SqL K (upd H1 p (.lst (f.map V.int))) p (f.map V.int) := SqL.of upd_same
    have sa' : SqT K (upd H1 p (.lst (f.map V.int))) qa ((ahead gs s).map V.int) := ex_t (Ex.new np) sa
    have R' : RingAt C (upd H1 p (.lst (f.map V.int))) r ps gs := RingAt.ex (exf f) R
    have nd' : ND (upd H1 p (.lst (f.map V.int))) := nd_lst nd1
    refine ⟨decide ((f.length : Int) < n), by walk_at "va", fun b1 => ?_, fun b1 => ?_⟩
    · have b1 := of_decide_eq_true b1
      refine ⟨_, fun _ _ h => h, ?_⟩
      refine w_asg (va_var rfl) ?_
      have hd : lastD s f ∈ gs := by
        rcases List.mem_cons.mp (lastD_mem f s) with e | e
        · rw [e]; exact hs
        · exact l.mem _ e
      refine w_while (fun m σ H' => ∃ en : Nat, σ = [some (.ref r), some (.int s), some (.int n), some (.int L), some (.int ((gs.idxOf s : Nat) : Int)), some (.ref qa), some (.ref p), some (.int (pas : Int)), some (.int (en : Int))] ∧ H' = upd H1 p (.lst (f.map V.int)) ∧ pas ≤ en ∧ en ≤ (ahead gs s).length ∧
          (∀ x ∈ ((ahead gs s).drop pas).take (en - pas), way ps (lastD s f) x ≤ L) ∧ m = (ahead gs s).length - en)
        ((ahead gs s).length - pas) ⟨pas, rfl, rfl, Nat.le_refl _, l.le, (fun x hx => by rw [Nat.sub_self] at hx; cases hx), rfl⟩ ?_
      rintro m σ H' ⟨en, rfl, rfl, he1, he2, hw, rfl⟩
      have t1 : Ans (tTest (tOp (rI0 fun i j => .bl (decide (i < j))) (tVar 8) (tCB (kLen K) (tCons (tVar 5) tNil)))) [some (.ref r), some (.int s), some (.int n), some (.int L), some (.int ((gs.idxOf s : Nat) : Int)), some (.ref qa), some (.ref p), some (.int (pas : Int)), some (.int (en : Int))] (upd H1 p (.lst (f.map V.int))) (decide ((en : Int) < ((ahead gs s).length : Int))) := by walk_at "va"
      refine ⟨decide ((en : Int) < ((ahead gs s).length : Int)) && decide (way ps (lastD s f) (gi (ahead gs s) (en : Int)) ≤ L), an_and t1 (fun hb => ?_), fun b2 => ?_, fun b2 => ?_⟩
      · have hb := of_decide_eq_true hb
        have ha := gi_mem (xs := ahead gs s) (i := (en : Int)) (by omega) hb
        have i1 := g.inn hd
        have i2 := g.inn (ahead_mem ha)
        exact an_test (va_op (va_call (vs_cons (va_var rfl) (vs_cons (va_op (va_var rfl) (va_un va_c ru_neg) (rv_ixL sf (last_ints s l.ne))) (vs_cons (va_op (va_var rfl) (va_var rfl) (rv_ixT sa' (at_gi (by omega) hb))) vs_nil))) (sv_way nd' R' ⟨i1.1, Int.le_of_lt i1.2⟩ ⟨i2.1, Int.le_of_lt i2.2⟩)) (va_var rfl) rv_I0)
      · rw [Bool.and_eq_true] at b2
        have c1 := of_decide_eq_true b2.1
        have c2 := of_decide_eq_true b2.2
        refine ⟨_, fun _ _ h => h, ?_⟩
        refine e_asg (va_op (va_var rfl) va_c rv_I0) ?_
        refine ⟨(ahead gs s).length - (en + 1), by omega, en + 1, rfl, rfl, by omega, by omega, fun x hx => ?_, rfl⟩
        have hx0 : (ahead gs s)[en]? = some (gi (ahead gs s) (en : Int)) := by
          have := gi_get (xs := ahead gs s) (i := (en : Int)) (by omega) c1
          rw [Int.toNat_natCast] at this
          exact this
        rw [show en + 1 - pas = (en - pas) + 1 by omega, List.take_add_one, List.getElem?_drop, show pas + (en - pas) = en by omega, hx0] at hx
        rcases List.mem_append.mp hx with z | z
        · exact hw x z
        · have : x = gi (ahead gs s) (en : Int) := by simpa using z
          rw [this]
          exact c2
      · have hrun : run ps L (lastD s f) ((ahead gs s).drop pas) = ((ahead gs s).drop pas).take (en - pas) := by
          refine run_take (by rw [List.length_drop]; omega) hw fun x hx hx2 => ?_
          rw [List.getElem?_drop, show pas + (en - pas) = en by omega] at hx
          have hlt := (List.getElem?_eq_some_iff.mp hx).1
          have e5 := gi_some hx
          rw [e5] at b2
          rw [decide_eq_true (show (en : Int) < ((ahead gs s).length : Int) by omega), decide_eq_true hx2] at b2
          cases b2
        refine w_when (by walk_at "va") (fun b3 => ?_) (fun b3 => ?_)
        · have b3 := of_decide_eq_true b3
          refine w_ret (va_var rfl) (fin f (lst_stop l ?_))
          rw [hrun, show en - pas = 0 by omega]
          rfl
        · have b3 := of_decide_eq_false b3
          have hlt : en - 1 < (ahead gs s).length := by omega
          have hx : (ahead gs s)[en - 1]? = some ((ahead gs s)[en - 1]) := List.getElem?_eq_getElem hlt
          have ev : atI ((ahead gs s).map V.int) ((en : Int) - 1) = some (.int (ahead gs s)[en - 1]) := at_nat (n := en - 1) (by omega) (by rw [List.getElem?_map, hx]; rfl)
          have few := l.few
          refine w_app upd_same (va_var rfl) (va_op (va_var rfl) (va_op (va_var rfl) va_c rv_I0) (rv_ixT sa' ev)) (by rw [List.length_map]; omega) ?_
          refine e_asg (va_var rfl) ?_
          refine ⟨(ahead gs s).length - en, by omega, f ++ [(ahead gs s)[en - 1]], en, some (.int (en : Int)), rfl, ?_, lst_more l b1 (by omega) he2 hrun hx, rfl⟩
          rw [upd_upd, List.map_append]
          rfl
    · have b1 := of_decide_eq_false b1
      exact w_ret (va_var rfl) (fin f (lst_full l b1))
end
end Fp

/-! ## D5 -/
set_option Elab.async false
set_option linter.all false
set_option maxRecDepth 100000
set_option maxHeartbeats 4000000
namespace Fp
open PySem L2 Fv
open Evl (Ex Ex.refl Ex.trans Ex.new fresh_back ex_rd ex_l ex_t)
open Fw
local macro_rules | `(tactic| walk_at "va") => `(tactic| first
  | with_reducible exact va_c
  | ((with_reducible apply va_var); exact rfl)
  | with_reducible exact vs_nil
  | ((with_reducible apply vs_cons) <;> walk_at "va")
  | ((with_reducible apply va_op) <;> walk_at "va")
  | ((with_reducible apply va_un) <;> walk_at "va")
  | ((with_reducible apply va_cb) <;> walk_at "va")
  | ((with_reducible apply va_call) <;> walk_at "va")
  | ((with_reducible apply an_test) <;> walk_at "va")
  | ((with_reducible apply an_B) <;> walk_at "va")
  | ((with_reducible apply an_not) <;> walk_at "va")
  | ((with_reducible apply va_chain) <;> walk_at "va")
  | ((with_reducible apply mk_lst) <;> first | walk_at "va" | (show _ ≤ 100000; decide))
  | ((with_reducible apply mk_tup) <;> first | walk_at "va" | (show _ ≤ 100000; decide))
  | ((with_reducible apply mk_cb) <;> walk_at "va")
  | ((with_reducible apply mk_call) <;> walk_at "va")
  | with_reducible exact rv_I0
  | with_reducible exact rv_eqI
  | with_reducible exact rv_neI
  | with_reducible exact ru_neg
  | with_reducible exact rc_int1
  | with_reducible exact rc_abs
  | with_reducible exact rc_max2
  | with_reducible exact rc_min2
  | ((with_reducible apply rc_sum); assumption)
  | ((with_reducible apply rc_lenLI); assumption)
  | ((with_reducible apply rc_lenTI); assumption)
  | ((with_reducible apply rc_lenL); assumption)
  | ((with_reducible apply rc_lenT); assumption)
  | ((with_reducible apply rv_ixL) <;> assumption)
  | ((with_reducible apply rv_ixT) <;> assumption)
  | ((with_reducible apply rv_ixSL) <;> assumption)
  | ((with_reducible apply rv_ixST) <;> assumption)
  | ((with_reducible apply rv_inL); assumption)
  | ((with_reducible apply rv_inT); assumption)
  | ((with_reducible apply rv_ninL); assumption)
  | ((with_reducible apply rv_ninT); assumption)
  | ((with_reducible apply rn_listL); assumption)
  | ((with_reducible apply rn_listT); assumption)
  | ((with_reducible apply rn_tupleL); assumption)
  | assumption)
/-! ### leaps, distinct, choice_of_doors -/
def spLeaps (C : Addr) : Sp := fun vs H Q _ => ND H ∧ ∃ r ps gs s n c, vs = [.ref r, .int s, .int n, .int c] ∧ RingAt C H r ps gs ∧ Good ps gs ∧ gs.length ≤ 1000 ∧ s ∈ gs ∧
  ∀ p, H p = none → Q (.ref p) (upd H p (.lst ((leapsM ps gs (W ps - c - 1) n s).map V.int)))
def spDistinct : Sp := fun vs H Q _ => ND H ∧ ∃ (a : Addr) (ns : List Int), vs = [.ref a] ∧ H a = some (.lst (ns.map V.int)) ∧ ns.length ≤ 4000 ∧
  ∀ (cs : List Int) (p : Addr), cs.Pairwise (· < ·) → (∀ k : Int, k ∈ cs ↔ k ∈ ns) → H p = none → Q (.ref p) (upd H p (.lst (cs.map V.int)))
def spChoice (C : Addr) : Sp := fun vs H Q _ => ND H ∧ ∃ r ps gs n c, vs = [.ref r, .int n, .int c] ∧ RingAt C H r ps gs ∧ Good ps gs ∧ gs.length ≤ 1000 ∧ 1 ≤ n ∧
  ((∀ U, IsSet gs n U → cost ps U < c) → Q .non H) ∧ (∀ (T : List Int) (p : Addr), IsSet gs n T → c ≤ cost ps T → H p = none → Q (.ref p) (upd H p (.lst (T.map V.int))))
section
variable {P : Program} {w : World} {K : PySem.W.Frag} {mg : Str → Option Value} {base : Heap} {C f : Addr} {fd : FuncData}
theorem ok_P_leaps (T : Txt K mg C) (F : Fun K "leaps" "leaps" s_P_leaps f fd) (c_R_whole : C8.Met P w K mg base 1 C "whole" (spWhole C) []) (c_P_leaps_within : C8.Cal P w K mg base 4 "leaps_within" (spLW C) []) :
    FnOk P w K mg base CX0 5 f fd ["ring", "door", "lanes", "cost"] (spLeaps C) := by
  refine okF F sc_P_leaps (fun vs H Q E h => h.1) (fun vs H Q E h => ?_) (fun cdv A outer s0 H vs Q E hr h => ?_)
  · obtain ⟨_, r, ps, gs, s, n, c, rfl, _⟩ := h
    rfl
  · obtain ⟨nd, r, ps, gs, s, n, c, rfl, R, g, hz, hs, q⟩ := h
    refine ⟨_, (pss_one (ps_ret (C8.pe_c c_P_leaps_within hr (by decide) (by rfl) (pa_cons (pv 0) (pa_cons (pv 1) (pa_cons (pv 2) (pa_cons (pe_op op_sub (pe_op op_sub (C8.pe_mt0 c_R_whole hr (by decide) (pv 0)) (pv 3)) pe_int) pa_nil))))))), ?_⟩
    refine w_retN (mk_call (vs_cons (va_var rfl) (vs_cons (va_var rfl) (vs_cons (va_var rfl) (vs_cons (va_op (va_op (va_whole (va_var rfl) nd R) (va_var rfl) rv_I0) va_c rv_I0) vs_nil)))) (fun Q E q => ⟨nd, r, ps, gs, s, n, _, rfl, R, g, hz, hs, q⟩)) (fun p np => ?_)
    exact rt_new np (Ex.new np) upd_same True.intro (q p np)
theorem ok_P_distinct (T : Txt K mg C) (F : Fun K "distinct" "distinct" s_P_distinct f fd) : FnOk P w K mg base CX0 1 f fd ["row"] spDistinct := by
  refine okF F sc_P_distinct (fun vs H Q E h => h.1) (fun vs H Q E h => ?_) (fun cdv A outer s0 H vs Q E hr h => ?_)
  · obtain ⟨_, a, ns, rfl, _⟩ := h
    rfl
  · obtain ⟨nd, a, ns, rfl, ha, hz, q⟩ := h
    refine ⟨_, (pss_one (ps_ret (pe_callB (Fr0.cr_sortedSetA rfl) (by rfl) T.sorted bt_sorted (pa_cons (pe_callTy (Fr0.cr_setOf rfl) (by rfl) T.set bt_set (pa_cons (pv 0) pa_nil)) pa_nil)))), ?_⟩
    refine r_ret (r_cb (r_cons (r_cb (r_cons ((va_var rfl).go (r_nil ⟨a, ns, rfl, SqL.of ha, hz, fun p1 c np1 => r_nil ⟨p1, _, _, rfl, upd_same, fun cs p asc mem np => ?_⟩⟩)))))) 
    have np' := fresh_back (Ex.new np1) np
    exact rt_new np' ((Ex.new np1).trans (Ex.new np)) upd_same True.intro (q cs p asc (fun k => by rw [mem k, decide_eq_true_eq]) np')
theorem ok_P_choice (T : Txt K mg C) (F : Fun K "choice_of_doors" "choice_of_doors" s_P_choice_of_doors f fd) (c_R_whole : C8.Met P w K mg base 1 C "whole" (spWhole C) []) (c_P_way_round : C8.Cal P w K mg base 3 "way_round" (spWay C) []) (c_P_leaps_within : C8.Cal P w K mg base 4 "leaps_within" (spLW C) []) :
    FnOk P w K mg base CX0 5 f fd ["ring", "lanes", "cost"] (spChoice C) := by
  refine okF F sc_P_choice_of_doors (fun vs H Q E h => h.1) (fun vs H Q E h => ?_) (fun cdv A outer s0 H vs Q E hr h => ?_)
  · obtain ⟨_, r, ps, gs, n, c, rfl, _⟩ := h
    rfl
  · obtain ⟨nd, r, ps, gs, n, c, rfl, R, g, hz, hn, q1, q2⟩ := h
    refine ⟨_, (pss_cons (ps_set (i := 3) sc_P_choice_of_doors.nd rfl (Or.inl rfl) (pe_op op_sub (C8.pe_mt0 c_R_whole hr (by decide) (pv 0)) (pv 2)))
      (pss_cons (ps_for PassesOwn.never rfl (pi_tup (pe_fld (pv 0) rfl)) (pg_name (i := 4) sc_P_choice_of_doors.nd rfl (Or.inl rfl)) (pss_cons (ps_set (i := 5) sc_P_choice_of_doors.nd rfl (Or.inl rfl) (C8.pe_c c_P_leaps_within hr (by decide) (by rfl) (pa_cons (pv 0) (pa_cons (pv 4) (pa_cons (pv 1) (pa_cons (pv 3) pa_nil))))))
        (pss_one (ps_if (pt_cmpR op_le (C8.pe_c c_P_way_round hr (by decide) (by rfl) (pa_cons (pv 0) (pa_cons (pe_ix ix_list (pv 5) (pe_un un_neg pe_int) (fun _ _ => rfl)) (pa_cons (pv 4) pa_nil)))) (pv 3) (nomark _)) (pss_one (ps_ret (pe_callB cr_sortedI (by rfl) T.sorted bt_sorted (pa_cons (pv 5) pa_nil)))) pss_nil))))
      (pss_one (ps_ret pe_non)))), ?_⟩
    obtain ⟨dx, a, b, cc, d, h1, h2, ⟨ob, hob, h3⟩, h4⟩ := id R
    refine w_asg (va_op (va_whole (va_var rfl) nd R) (va_var rfl) rv_I0) ?_
    refine w_forT (va_fld (va_var rfl) h1 T.cl T.n3 fs_doors) (sqF h3) (fun i σ H' => ∃ x y, σ = [some (.ref r), some (.int n), some (.int c), some (.int (W ps - c)), x, y] ∧ Ex H H' ∧ ND H' ∧ ∀ s ∈ gs.take i, ¬ way ps (lastD s (leapsR ps (W ps - c) (n - 1).toNat s (ahead gs s))) s ≤ W ps - c)
      ⟨none, none, rfl, Ex.refl H, nd, fun s hs => by cases hs⟩ (fun i σ' H' _ ⟨_, _, _, e, _⟩ => ex_t e (sqF h3)) ?_ ?_
    · rintro i x σ' H' hx ⟨_, _, rfl, e, nd', hno⟩
      rw [List.getElem?_map] at hx
      cases hy : gs[i]? with
      | none => rw [hy] at hx; cases hx
      | some s =>
        rw [hy] at hx
        cases hx
        have hs := List.mem_of_getElem? hy
        have R' := RingAt.ex e R
        refine w_asgN (mk_call (vs_cons (va_var rfl) (vs_cons (va_var rfl) (vs_cons (va_var rfl) (vs_cons (va_var rfl) vs_nil)))) (fun Q E q => ⟨nd', r, ps, gs, s, n, W ps - c, rfl, R', g, hz, hs, q⟩)) (fun p np => ?_)
        have sf : SqL K (upd H' p (.lst ((leapsM ps gs (W ps - c) n s).map V.int))) p ((leapsM ps gs (W ps - c) n s).map V.int) := SqL.of upd_same
        have nd2 : ND (upd H' p (.lst ((leapsM ps gs (W ps - c) n s).map V.int))) := nd_lst nd'
        have R2 := RingAt.ex (Ex.new (o := .lst ((leapsM ps gs (W ps - c) n s).map V.int)) np) R'
        have el := last_ints (f := leapsM ps gs (W ps - c) n s) s (List.cons_ne_nil _ _)
        have hl := lastD_mem (leapsM ps gs (W ps - c) n s) s
        have hlg : lastD s (leapsM ps gs (W ps - c) n s) ∈ gs := by
          rcases List.mem_cons.mp hl with q | q
          · rw [q]; exact hs
          · exact leapsM_mem hs _ q
        have i1 := g.inn hlg
        have i2 := g.inn hs
        refine e_when (an_test (va_op (va_call (vs_cons (va_var rfl) (vs_cons (va_op (va_var rfl) (va_un va_c ru_neg) (rv_ixL sf el)) (vs_cons (va_var rfl) vs_nil))) (sv_way nd2 R2 ⟨i1.1, Int.le_of_lt i1.2⟩ ⟨i2.1, Int.le_of_lt i2.2⟩)) (va_var rfl) rv_I0)) (fun b => ?_) (fun b => ?_)
        · have b := of_decide_eq_true b
          refine r_ret (r_cb (r_cons ((va_var rfl).go (r_nil ⟨p, _, rfl, sf, fun T p2 pm asc np2 => ?_⟩))))
          obtain ⟨t1, t2⟩ := choice_some g hs hn b pm asc
          have np3 := fresh_back (e.trans (Ex.new np)) np2
          exact rt_new np3 ((e.trans (Ex.new np)).trans (Ex.new np2)) upd_same True.intro (q2 T p2 t1 t2 np3)
        · have b := of_decide_eq_false b
          refine ⟨_, _, rfl, e.trans (Ex.new np), nd2, fun t ht => ?_⟩
          rw [List.take_add_one, hy] at ht
          rcases List.mem_append.mp ht with q | q
          · exact hno t q
          · have : t = s := by simpa using q
            rw [this]
            exact b
    · rintro σ' H' ⟨_, _, rfl, e, nd', hno⟩
      rw [List.length_map, List.take_length] at hno
      exact w_ret va_c (rt_val e (q1 (choice_none g hno)))
end
end Fp

/-! ## D6 -/
set_option Elab.async false
set_option linter.all false
set_option maxRecDepth 100000
set_option maxHeartbeats 4000000
namespace Fp
open PySem L2 Fv
open Evl (Ex Ex.refl Ex.trans Ex.new fresh_back ex_rd ex_l ex_t)
open Fw
local macro_rules | `(tactic| walk_at "va") => `(tactic| first
  | with_reducible exact va_c
  | ((with_reducible apply va_var); exact rfl)
  | with_reducible exact vs_nil
  | ((with_reducible apply vs_cons) <;> walk_at "va")
  | ((with_reducible apply va_op) <;> walk_at "va")
  | ((with_reducible apply va_un) <;> walk_at "va")
  | ((with_reducible apply va_cb) <;> walk_at "va")
  | ((with_reducible apply va_call) <;> walk_at "va")
  | ((with_reducible apply an_test) <;> walk_at "va")
  | ((with_reducible apply an_B) <;> walk_at "va")
  | ((with_reducible apply an_not) <;> walk_at "va")
  | ((with_reducible apply va_chain) <;> walk_at "va")
  | ((with_reducible apply mk_lst) <;> first | walk_at "va" | (show _ ≤ 100000; decide))
  | ((with_reducible apply mk_tup) <;> first | walk_at "va" | (show _ ≤ 100000; decide))
  | ((with_reducible apply mk_cb) <;> walk_at "va")
  | ((with_reducible apply mk_call) <;> walk_at "va")
  | with_reducible exact rv_I0
  | with_reducible exact rv_eqI
  | with_reducible exact rv_neI
  | with_reducible exact ru_neg
  | with_reducible exact rc_int1
  | with_reducible exact rc_abs
  | with_reducible exact rc_max2
  | with_reducible exact rc_min2
  | ((with_reducible apply rc_sum); assumption)
  | ((with_reducible apply rc_lenLI); assumption)
  | ((with_reducible apply rc_lenTI); assumption)
  | ((with_reducible apply rc_lenL); assumption)
  | ((with_reducible apply rc_lenT); assumption)
  | ((with_reducible apply rv_ixL) <;> assumption)
  | ((with_reducible apply rv_ixT) <;> assumption)
  | ((with_reducible apply rv_ixSL) <;> assumption)
  | ((with_reducible apply rv_ixST) <;> assumption)
  | ((with_reducible apply rv_inL); assumption)
  | ((with_reducible apply rv_inT); assumption)
  | ((with_reducible apply rv_ninL); assumption)
  | ((with_reducible apply rv_ninT); assumption)
  | ((with_reducible apply rn_listL); assumption)
  | ((with_reducible apply rn_listT); assumption)
  | ((with_reducible apply rn_tupleL); assumption)
  | assumption)
/-! ### comprehensions over two tuples, comprehensions of new lists -/
theorem flat_len {α β γ : Type} (f : α → β → γ) (ys : List β) : ∀ xs : List α, (xs.flatMap fun x => ys.map (f x)).length = xs.length * ys.length
  | [] => by simp
  | x :: xs => by
    rw [List.flatMap_cons, List.length_append, List.length_map, flat_len f ys xs, List.length_cons, Nat.succ_mul]
    omega
theorem flat_take {α β γ : Type} {f : α → β → γ} {ys : List β} {xs : List α} {i : Nat} {x : α} (h : xs[i]? = some x) : (xs.take (i + 1)).flatMap (fun x => ys.map (f x)) = (xs.take i).flatMap (fun x => ys.map (f x)) ++ ys.map (f x) := by
  rw [List.take_add_one, h, List.flatMap_append]
  simp
section
variable {K : PySem.W.Frag} {σ : L2.St} {H : Hp} {te tl tl1 : TE} {a b : Addr} {xs ys : List V} {j j1 : Nat} {vs vs1 : List Nat} {Q : VK}
theorem r_yes {Q : Bool → Hp → Prop} (h : Q true H) : tYes σ H Q := h
theorem mk_lc2T (f : V → V → V) (h : Val tl σ H (.ref a)) (hx : SqT K H a xs) (hz : xs.length ≤ 1000) (hz2 : ys.length ≤ 1000) (hw : ∀ x, wipe ((wipe σ vs).set j (some x)) vs = wipe σ vs)
    (hw1 : ∀ x y, wipe ((wipe ((wipe σ vs).set j (some x)) vs1).set j1 (some y)) vs1 = wipe ((wipe σ vs).set j (some x)) vs1)
    (hi : ∀ x Dl zs, H Dl = none → x ∈ xs → Val tl1 ((wipe σ vs).set j (some x)) (upd H Dl (.lst zs)) (.ref b)) (hb : SqT K H b ys)
    (he : ∀ x y Dl zs, H Dl = none → x ∈ xs → y ∈ ys → Val te ((wipe ((wipe σ vs).set j (some x)) vs1).set j1 (some y)) (upd H Dl (.lst zs)) (f x y)) :
    Mkn (tLc2 (iTup K tl) (gName j) tYes (iTup K tl1) (gName j1) tYes te vs vs1) σ H (.lst (xs.flatMap fun x => ys.map (f x))) := fun Q q => h _ ⟨a, rfl, ⟨xs, hx⟩, fun Dl hD =>
  ⟨fun i m H' => m = xs.length - i ∧ i ≤ xs.length ∧ H' = upd H Dl (.lst ((xs.take i).flatMap fun x => ys.map (f x))), ⟨xs.length, rfl, Nat.zero_le _, rfl⟩, fun i m H' ⟨em, hi', eH⟩ => by
    subst em eH
    have sx : ∀ zs, SqT K (upd H Dl (.lst zs)) a xs := fun zs => ex_t (Ex.new hD) hx
    have sy : ∀ zs, SqT K (upd H Dl (.lst zs)) b ys := fun zs => ex_t (Ex.new hD) hb
    by_cases hlt : i < xs.length
    · refine .inr ⟨⟨xs, xs[i], sx _, List.getElem?_eq_getElem hlt⟩, fun H' => H' = upd H Dl (.lst ((xs.take (i + 1)).flatMap fun x => ys.map (f x))), fun H' e => ⟨xs.length - (i + 1), by omega, rfl, hlt, e⟩, fun x H' hy => ?_⟩
      obtain ⟨rfl, hx2⟩ := hy
      have hxi := hx2 xs (sx _)
      have hxm := List.mem_of_getElem? hxi
      refine ⟨hw x, ?_⟩
      refine r_yes (iteT ?_)
      refine hi x Dl _ hD hxm _ ⟨b, rfl, ⟨ys, sy _⟩, ?_⟩
      refine ⟨fun k m H' => m = ys.length - k ∧ k ≤ ys.length ∧ H' = upd H Dl (.lst (((xs.take i).flatMap fun x => ys.map (f x)) ++ (ys.take k).map (f x))), ⟨ys.length, rfl, Nat.zero_le _, by simp⟩, fun k m H' ⟨em, hk', eH⟩ => ?_⟩
      subst em eH
      by_cases hk : k < ys.length
      · refine .inr ⟨⟨ys, ys[k], sy _, List.getElem?_eq_getElem hk⟩, fun H' => H' = upd H Dl (.lst (((xs.take i).flatMap fun x => ys.map (f x)) ++ (ys.take (k + 1)).map (f x))), fun H' e => ⟨ys.length - (k + 1), by omega, rfl, hk, e⟩, fun y H' hy => ?_⟩
        obtain ⟨rfl, hy2⟩ := hy
        have hyk := hy2 ys (sy _)
        refine ⟨hw1 x y, ?_⟩
        refine r_yes (iteT ?_)
        refine he x y Dl _ hD hxm (List.mem_of_getElem? hyk) _ ⟨_, upd_same, ?_, ?_⟩
        · rw [List.length_append, flat_len, List.length_map, List.length_take, List.length_take]
          have h1 : min i xs.length * ys.length ≤ 1000 * 1000 := Nat.mul_le_mul (by omega) hz2
          refine Nat.lt_of_lt_of_le (show _ < 1100000 by omega) (by decide)
        · rw [upd_upd, List.append_assoc, List.take_add_one, hyk, List.map_append]
          rfl
      · have ek : k = ys.length := by omega
        subst ek
        refine .inl ⟨⟨ys, sy _, Nat.le_refl _⟩, ?_⟩
        rw [flat_take hxi, List.take_length]
    · have e : i = xs.length := by omega
      subst e
      refine .inl ⟨⟨xs, sx _, Nat.le_refl _⟩, ?_⟩
      rw [List.take_length]
      exact q Dl hD⟩⟩
/-- rows that are new behind H -/
def Rows (H H2 : Hp) (Dl : Addr) (n : Nat) (F : Nat → List V) (as : List Addr) : Prop := as.length = n ∧ ∀ i, i < n → ∃ a, as[i]? = some a ∧ H a = none ∧ a ≠ Dl ∧ H2 a = some (.lst (F i))
def Lw (H : Hp) (F : Nat → List V) (Dl : Addr) (i : Nat) (H' : Hp) : Prop := H Dl = none ∧ Ex H H' ∧ Clo H H' ∧ ∃ as : List Addr, H' Dl = some (.lst (as.map V.ref)) ∧ Rows H H' Dl i F as
theorem lw_nd {F : Nat → List V} {Dl : Addr} {i : Nat} {H' : Hp} (nd : ND H) (l : Lw H F Dl i H') : ND H' := nd_clo nd l.2.1 l.2.2.1
theorem lw_turn {F : Nat → List V} {Dl : Addr} {i : Nat} {H' : Hp} {σ2 : L2.St} (l : Lw H F Dl i H') (hi : i < 50000) (he : Mkn te σ2 H' (.lst (F i))) :
    tYes σ2 H' fun b H3 => if b = true then te σ2 H3 fun y H4 => ∃ acc, H4 Dl = some (.lst acc) ∧ acc.length < sizeLine ∧ Lw H F Dl (i + 1) (upd H4 Dl (.lst (acc ++ [y]))) else Lw H F Dl (i + 1) H3 := by
  obtain ⟨hD, ex, clo, as, hDl, hlen, rows⟩ := l
  show te σ2 _ _
  refine he _ fun p np => ?_
  have nDp : Dl ≠ p := ne_of_none hDl np
  have npH : H p = none := fresh_back ex np
  refine ⟨as.map V.ref, by rw [upd_ne nDp]; exact hDl, by rw [List.length_map, hlen]; exact Nat.lt_of_lt_of_le hi (by decide), hD, ?_, ?_, as ++ [p], ?_, ?_, ?_⟩
  · intro z o hz
    have nz : z ≠ Dl := fun e => by rw [e, hD] at hz; cases hz
    rw [upd_ne nz, upd_ne (ne_of_none hz npH)]
    exact ex z o hz
  · intro z o hz hz2
    by_cases e : z = Dl
    · rw [e, upd_same] at hz2
      cases hz2
      exact .inl True.intro
    · rw [upd_ne e] at hz2
      by_cases e2 : z = p
      · rw [e2, upd_same] at hz2
        cases hz2
        exact .inl True.intro
      · rw [upd_ne e2] at hz2
        rcases clo z o hz hz2 with q | ⟨C, dx, fs, q1, q2⟩
        · exact .inl q
        · refine .inr ⟨C, dx, fs, q1, ?_⟩
          have n1 : dx ≠ Dl := ne_of q2 hDl (by intro e; cases e)
          rw [upd_ne n1, upd_ne (ne_of_none q2 np)]
          exact q2
  · rw [upd_same, List.map_append]
    rfl
  · rw [List.length_append, hlen]
    rfl
  · intro k hk
    by_cases e : k < i
    · obtain ⟨a, h1, h2, h3, h4⟩ := rows k e
      refine ⟨a, ?_, h2, h3, ?_⟩
      · rw [List.getElem?_append_left (by omega)]
        exact h1
      · rw [upd_ne h3, upd_ne (ne_of_none h4 np)]
        exact h4
    · have e : k = i := by omega
      subst e
      refine ⟨p, ?_, npH, nDp.symm, ?_⟩
      · rw [List.getElem?_append_right (by omega), hlen, Nat.sub_self]
        rfl
      · rw [upd_ne nDp.symm, upd_same]
theorem lw_start (F : Nat → List V) {Dl : Addr} (hD : H Dl = none) : Lw H F Dl 0 (upd H Dl (.lst [])) := ⟨hD, Ex.new hD, Clo.new True.intro, [], upd_same, rfl, fun i hi => absurd hi (Nat.not_lt_zero i)⟩
theorem lc_newT (F : Nat → List V) (nd : ND H) (h : Val tl σ H (.ref a)) (hx : SqT K H a xs) (hz : xs.length ≤ 40000) (hw : ∀ x, wipe ((wipe σ vs).set j (some x)) vs = wipe σ vs)
    (he : ∀ (i : Nat) (x : V) (H' : Hp), xs[i]? = some x → Ex H H' → ND H' → Mkn te ((wipe σ vs).set j (some x)) H' (.lst (F i)))
    (k : ∀ Dl H2 as, H Dl = none → Ex H H2 → Clo H H2 → ND H2 → H2 Dl = some (.lst (as.map V.ref)) → Rows H H2 Dl xs.length F as → Q (.ref Dl) H2) : tLc (iTup K tl) (gName j) tYes te vs σ H Q := h _ ⟨a, rfl, ⟨xs, hx⟩, fun Dl hD =>
  lc_tup (xs := xs) (Lw H F Dl) (lw_start F hD) (fun i H' _ p => ex_t p.2.1 hx) (fun i x H' hi p => ⟨hw x, lw_turn p (by have := (List.getElem?_eq_some_iff.mp hi).1; omega) (he i x H' hi p.2.1 (lw_nd nd p))⟩)
    (fun H' p => by
      obtain ⟨h1, h2, h3, as, h4, h5⟩ := id p
      exact k Dl H' as hD h2 h3 (lw_nd nd p) h4 h5)⟩
theorem lc_newL (F : Nat → List V) (nd : ND H) (h : Val tl σ H (.ref a)) (hx : SqL K H a xs) (hz : xs.length ≤ 40000) (hw : ∀ x, wipe ((wipe σ vs).set j (some x)) vs = wipe σ vs)
    (he : ∀ (i : Nat) (x : V) (H' : Hp), xs[i]? = some x → Ex H H' → ND H' → Mkn te ((wipe σ vs).set j (some x)) H' (.lst (F i)))
    (k : ∀ Dl H2 as, H Dl = none → Ex H H2 → Clo H H2 → ND H2 → H2 Dl = some (.lst (as.map V.ref)) → Rows H H2 Dl xs.length F as → Q (.ref Dl) H2) : tLc (iList K tl) (gName j) tYes te vs σ H Q := h _ ⟨a, rfl, ⟨xs, hx⟩, fun Dl hD =>
  lc_list (xs := xs) (Lw H F Dl) (lw_start F hD) (fun i H' _ p => ex_l p.2.1 hx) (fun i x H' hi p => ⟨hw x, lw_turn p (by have := (List.getElem?_eq_some_iff.mp hi).1; omega) (he i x H' hi p.2.1 (lw_nd nd p))⟩)
    (fun H' p => by
      obtain ⟨h1, h2, h3, as, h4, h5⟩ := id p
      exact k Dl H' as hD h2 h3 (lw_nd nd p) h4 h5)⟩
end
/-! ### certificates in the heap -/
def LLi (N : Addr → Prop) (H : Hp) (p : Addr) (ls : List (List Int)) : Prop := N p ∧ ∃ as : List Addr, H p = some (.lst (as.map V.ref)) ∧ as.length = ls.length ∧ ∀ (i : Nat) (l : List Int), ls[i]? = some l → ∃ a, as[i]? = some a ∧ N a ∧ H a = some (.lst (l.map V.int))
def Pap (N : Addr → Prop) (H : Hp) (xs : List V) (c : Int) (ds : List Int) (ls : List (List Int)) : Prop := ∃ a b, xs = [.int c, .ref a, .ref b] ∧ N a ∧ H a = some (.lst (ds.map V.int)) ∧ LLi N H b ls
def PapT (N : Addr → Prop) (H : Hp) (p : Addr) (c : Int) (ds : List Int) (ls : List (List Int)) : Prop := N p ∧ ∃ xs, H p = some (.tup xs) ∧ Pap N H xs c ds ls
def PapL (N : Addr → Prop) (H : Hp) (p : Addr) (c : Int) (ds : List Int) (ls : List (List Int)) : Prop := N p ∧ ∃ xs, H p = some (.lst xs) ∧ Pap N H xs c ds ls
theorem LLi.ex {N : Addr → Prop} {H H' : Hp} {p : Addr} {ls : List (List Int)} (e : Ex H H') (h : LLi N H p ls) : LLi N H' p ls := by
  obtain ⟨n, as, h1, h2, h3⟩ := h
  refine ⟨n, as, e _ _ h1, h2, fun i l hl => ?_⟩
  obtain ⟨a, q1, q2, q3⟩ := h3 i l hl
  exact ⟨a, q1, q2, e _ _ q3⟩
theorem Pap.ex {N : Addr → Prop} {H H' : Hp} {xs : List V} {c : Int} {ds : List Int} {ls : List (List Int)} (e : Ex H H') (h : Pap N H xs c ds ls) : Pap N H' xs c ds ls := by
  obtain ⟨a, b, h1, h2, h3, h4⟩ := h
  exact ⟨a, b, h1, h2, e _ _ h3, h4.ex e⟩
theorem PapT.ex {N : Addr → Prop} {H H' : Hp} {p : Addr} {c : Int} {ds : List Int} {ls : List (List Int)} (e : Ex H H') (h : PapT N H p c ds ls) : PapT N H' p c ds ls := by
  obtain ⟨n, xs, h1, h2⟩ := h
  exact ⟨n, xs, e _ _ h1, h2.ex e⟩
theorem PapL.ex {N : Addr → Prop} {H H' : Hp} {p : Addr} {c : Int} {ds : List Int} {ls : List (List Int)} (e : Ex H H') (h : PapL N H p c ds ls) : PapL N H' p c ds ls := by
  obtain ⟨n, xs, h1, h2⟩ := h
  exact ⟨n, xs, e _ _ h1, h2.ex e⟩
theorem LLi.imp {N M : Addr → Prop} {H : Hp} {p : Addr} {ls : List (List Int)} (i : ∀ a, N a → M a) (h : LLi N H p ls) : LLi M H p ls := by
  obtain ⟨n, as, h1, h2, h3⟩ := h
  refine ⟨i _ n, as, h1, h2, fun k l hl => ?_⟩
  obtain ⟨a, q1, q2, q3⟩ := h3 k l hl
  exact ⟨a, q1, i _ q2, q3⟩
theorem Pap.imp {N M : Addr → Prop} {H : Hp} {xs : List V} {c : Int} {ds : List Int} {ls : List (List Int)} (i : ∀ a, N a → M a) (h : Pap N H xs c ds ls) : Pap M H xs c ds ls := by
  obtain ⟨a, b, h1, h2, h3, h4⟩ := h
  exact ⟨a, b, h1, i _ h2, h3, h4.imp i⟩
theorem PapT.imp {N M : Addr → Prop} {H : Hp} {p : Addr} {c : Int} {ds : List Int} {ls : List (List Int)} (i : ∀ a, N a → M a) (h : PapT N H p c ds ls) : PapT M H p c ds ls := by
  obtain ⟨n, xs, h1, h2⟩ := h
  exact ⟨i _ n, xs, h1, h2.imp i⟩
theorem PapL.imp {N M : Addr → Prop} {H : Hp} {p : Addr} {c : Int} {ds : List Int} {ls : List (List Int)} (i : ∀ a, N a → M a) (h : PapL N H p c ds ls) : PapL M H p c ds ls := by
  obtain ⟨n, xs, h1, h2⟩ := h
  exact ⟨i _ n, xs, h1, h2.imp i⟩
/-- rows made by a comprehension -/
theorem lli_rows {H H2 : Hp} {Dl : Addr} {ls : List (List Int)} {F : Nat → List V} {as : List Addr} {n : Nat} (hD : H Dl = none) (h : H2 Dl = some (.lst (as.map V.ref))) (r : Rows H H2 Dl n F as) (en : n = ls.length) (eF : ∀ i l, ls[i]? = some l → F i = l.map V.int) : LLi (fun a => H a = none) H2 Dl ls := by
  subst en
  refine ⟨hD, as, h, r.1, fun i l hl => ?_⟩
  obtain ⟨a, q1, q2, q3, q4⟩ := r.2 i (List.getElem?_eq_some_iff.mp hl).1
  exact ⟨a, q1, q2, by rw [q4, eF i l hl]⟩
end Fp

/-! ## D7 -/
set_option Elab.async false
set_option linter.all false
set_option maxRecDepth 100000
set_option maxHeartbeats 4000000
namespace Fp
open PySem L2 Fv
open Evl (Ex Ex.refl Ex.trans Ex.new fresh_back ex_rd ex_l ex_t)
open Fw
local macro_rules | `(tactic| walk_at "va") => `(tactic| first
  | with_reducible exact va_c
  | ((with_reducible apply va_var); exact rfl)
  | with_reducible exact vs_nil
  | ((with_reducible apply vs_cons) <;> walk_at "va")
  | ((with_reducible apply va_op) <;> walk_at "va")
  | ((with_reducible apply va_un) <;> walk_at "va")
  | ((with_reducible apply va_cb) <;> walk_at "va")
  | ((with_reducible apply va_call) <;> walk_at "va")
  | ((with_reducible apply an_test) <;> walk_at "va")
  | ((with_reducible apply an_B) <;> walk_at "va")
  | ((with_reducible apply an_not) <;> walk_at "va")
  | ((with_reducible apply va_chain) <;> walk_at "va")
  | ((with_reducible apply mk_lst) <;> first | walk_at "va" | (show _ ≤ 100000; decide))
  | ((with_reducible apply mk_tup) <;> first | walk_at "va" | (show _ ≤ 100000; decide))
  | ((with_reducible apply mk_cb) <;> walk_at "va")
  | ((with_reducible apply mk_call) <;> walk_at "va")
  | with_reducible exact rv_I0
  | with_reducible exact rv_eqI
  | with_reducible exact rv_neI
  | with_reducible exact ru_neg
  | with_reducible exact rc_int1
  | with_reducible exact rc_abs
  | with_reducible exact rc_max2
  | with_reducible exact rc_min2
  | ((with_reducible apply rc_sum); assumption)
  | ((with_reducible apply rc_lenLI); assumption)
  | ((with_reducible apply rc_lenTI); assumption)
  | ((with_reducible apply rc_lenL); assumption)
  | ((with_reducible apply rc_lenT); assumption)
  | ((with_reducible apply rv_ixL) <;> assumption)
  | ((with_reducible apply rv_ixT) <;> assumption)
  | ((with_reducible apply rv_ixSL) <;> assumption)
  | ((with_reducible apply rv_ixST) <;> assumption)
  | ((with_reducible apply rv_inL); assumption)
  | ((with_reducible apply rv_inT); assumption)
  | ((with_reducible apply rv_ninL); assumption)
  | ((with_reducible apply rv_ninT); assumption)
  | ((with_reducible apply rn_listL); assumption)
  | ((with_reducible apply rn_listT); assumption)
  | ((with_reducible apply rn_tupleL); assumption)
  | assumption)
/-! ### equal data -/
section
variable {K : PySem.W.Frag} {H : Hp} {p q : Addr} {xs ys : List Int}
theorem dp_ints : ∀ ns : List Int, DpAll K H (ns.map V.int) (ns.map PyData.int)
  | [] => .nil
  | n :: ns => .cons (.int n) (dp_ints ns)
theorem eqv_ints : ∀ xs ys : List Int, PyData.eqvAll (xs.map PyData.int) (ys.map PyData.int) = decide (xs = ys)
  | [], [] => by simp [PyData.eqvAll]
  | [], _ :: _ => by simp [PyData.eqvAll]
  | _ :: _, [] => by simp [PyData.eqvAll]
  | x :: xs, y :: ys => by
    simp [PyData.eqvAll, PyData.eqv, eqv_ints xs ys]
    by_cases e : x = y
    · rw [e, decide_eq_true rfl, beq_self_eq_true]
    · rw [decide_eq_false e, beq_eq_false_iff_ne.mpr e]
theorem lay_ints : ∀ ns : List Int, PyData.canLayAll0 (ns.map PyData.int) = true
  | [] => by simp [PyData.canLayAll0]
  | n :: ns => by simp [PyData.canLayAll0, PyData.canLay0, lay_ints ns]
theorem dep_ints : ∀ ns : List Int, PyData.depthAll (ns.map PyData.int) = 0
  | [] => by simp [PyData.depthAll]
  | n :: ns => by simp [PyData.depthAll, PyData.depth, dep_ints ns]
theorem shL_ints (ns : List Int) : SeqAt.shaped (.list (ns.map PyData.int)) = true := by
  simp [SeqAt.shaped, PyData.canLay0, PyData.depth, lay_ints, dep_ints]
theorem shT_ints (ns : List Int) : SeqAt.shaped (.tuple (ns.map PyData.int)) = true := by
  simp [SeqAt.shaped, PyData.canLay0, PyData.depth, lay_ints, dep_ints]
theorem rv_neInts (h1 : SqL K H p (xs.map V.int)) (h2 : SqL K H q (ys.map V.int)) : RV (rNeD K) (.ref p) (.ref q) H (.bl (!decide (xs = ys))) := fun Q k =>
  ⟨_, _, .lst h1 (dp_ints xs), .lst h2 (dp_ints ys), shL_ints xs, shL_ints ys, by rw [show PyData.eqv (.list (xs.map PyData.int)) (.list (ys.map PyData.int)) = decide (xs = ys) from by rw [PyData.eqv, eqv_ints]]; exact k⟩
theorem rv_eqTup (h1 : SqT K H p (xs.map V.int)) (h2 : SqT K H q (xs.map V.int)) : RV (rEqD K) (.ref p) (.ref q) H (.bl true) := fun Q k =>
  ⟨_, _, .tup h1 (dp_ints xs), .tup h2 (dp_ints xs), shT_ints xs, shT_ints xs, by rw [show PyData.eqv (.tuple (xs.map PyData.int)) (.tuple (xs.map PyData.int)) = true from by rw [PyData.eqv, eqv_ints]; exact decide_eq_true rfl]; exact k⟩
def rowsD (ls : List (List Int)) : List PyData := ls.map fun l => PyData.list (l.map PyData.int)
theorem lay_rows : ∀ ls : List (List Int), PyData.canLayAll0 (rowsD ls) = true
  | [] => by simp [rowsD, PyData.canLayAll0]
  | l :: ls => by
    have ih := lay_rows ls
    simp [rowsD, PyData.canLayAll0, PyData.canLay0, lay_ints] at ih ⊢
    exact ih
theorem dep_rows : ∀ ls : List (List Int), PyData.depthAll (rowsD ls) ≤ 1
  | [] => by simp [rowsD, PyData.depthAll]
  | l :: ls => by
    have ih := dep_rows ls
    simp [rowsD, PyData.depthAll, PyData.depth, dep_ints] at ih ⊢
    omega
def papD (c : Int) (ds : List Int) (ls : List (List Int)) : PyData := .list [.int c, .list (ds.map PyData.int), .list (rowsD ls)]
theorem lay_pap (c : Int) (ds : List Int) (ls : List (List Int)) : PyData.canLay0 (papD c ds ls) = true := by
  simp [papD, PyData.canLay0, PyData.canLayAll0, lay_ints, lay_rows]
theorem sh_pap (c : Int) (ds : List Int) (ls : List (List Int)) : SeqAt.shaped (papD c ds ls) = true := by
  have h := dep_rows ls
  rw [SeqAt.shaped, lay_pap, Bool.true_and, decide_eq_true_eq]
  simp [papD, PyData.depth, PyData.depthAll, dep_ints]
  omega
theorem dp_rows : ∀ (ls : List (List Int)) (as : List Addr), as.length = ls.length → (∀ (i : Nat) (l : List Int), ls[i]? = some l → ∃ a, as[i]? = some a ∧ H a = some (.lst (l.map V.int))) → DpAll K H (as.map V.ref) (rowsD ls)
  | [], [], _, _ => .nil
  | [], _ :: _, h, _ => by cases h
  | _ :: _, [], h, _ => by cases h
  | l :: ls, a :: as, h, f => by
    obtain ⟨b, e1, e2⟩ := f 0 l rfl
    cases e1
    exact .cons (.lst (SqL.of e2) (dp_ints l)) (dp_rows ls as (by simpa using h) (fun i m hm => f (i + 1) m hm))
theorem LLi.dp {N : Addr → Prop} {ls : List (List Int)} (h : LLi N H p ls) : Dp K H (.ref p) (.list (rowsD ls)) := by
  obtain ⟨n, as, h1, h2, h3⟩ := h
  exact .lst (SqL.of h1) (dp_rows ls as h2 fun i l hl => by
    obtain ⟨a, q1, _, q3⟩ := h3 i l hl
    exact ⟨a, q1, q3⟩)
theorem PapL.dp {N : Addr → Prop} {c : Int} {ds : List Int} {ls : List (List Int)} (h : PapL N H p c ds ls) : Dp K H (.ref p) (papD c ds ls) := by
  obtain ⟨n, xs, h1, a, b, rfl, h3, h4, h5⟩ := h
  exact .lst (SqL.of h1) (.cons (.int c) (.cons (.lst (SqL.of h4) (dp_ints ds)) (.cons h5.dp .nil)))
theorem rv_nePap {N M : Addr → Prop} {c : Int} {ds : List Int} {ls : List (List Int)} (h1 : PapL N H p c ds ls) (h2 : PapL M H q c ds ls) : RV (rNeD K) (.ref p) (.ref q) H (.bl false) := fun Q k =>
  ⟨_, _, h1.dp, h2.dp, sh_pap c ds ls, sh_pap c ds ls, by rw [SeqAt.eqv_refl _ (lay_pap c ds ls)]; exact k⟩
end
theorem clo_trans {H H1 H2 : Hp} (e : Ex H H1) (e2 : Ex H1 H2) (c1 : Clo H H1) (c2 : Clo H1 H2) : Clo H H2 := fun a o h h2 => by
  cases h1 : H1 a with
  | none => exact c2 a o h1 h2
  | some u =>
    have e0 := e2 a u h1
    rw [h2] at e0
    cases e0
    rcases c1 a _ h h1 with z | ⟨C, dx, fs, z1, z2⟩
    · exact .inl z
    · exact .inr ⟨C, dx, fs, z1, e2 _ _ z2⟩
theorem rt_two {H H2 : Hp} {Q : VK} {p q : Addr} {o u : HO} (nq : H q = none) (np : H p = none) (npq : p ≠ q) (e : Ex H H2) (hq : H2 q = some u) (hp : H2 p = some o) (pu : Pl u) (po : Pl o) (k : Q (.ref p) (upd (upd H q u) p o)) : Rt H Q (.ref p) H2 := by
  have np' : upd H q u p = none := by rw [upd_ne npq]; exact np
  refine ⟨upd (upd H q u) p o, (Ex.new nq).trans (Ex.new np'), fun a w z => ?_, clo_trans (Ex.new nq) (Ex.new np') (Clo.new pu) (Clo.new po), k⟩
  by_cases z1 : a = p
  · subst z1
    rw [upd_same] at z
    cases z
    exact hp
  · rw [upd_ne z1] at z
    by_cases z2 : a = q
    · subst z2
      rw [upd_same] at z
      cases z
      exact hq
    · rw [upd_ne z2] at z
      exact e a w z
/-! ### few_cost, few_paper -/
def spFewCost (C : Addr) : Sp := fun vs H Q _ => ND H ∧ ∃ r ps gs n, vs = [.ref r, .int n] ∧ RingAt C H r ps gs ∧ Good ps gs ∧ gs.length ≤ 60 ∧ 1 ≤ n ∧
  ∀ (c : Int) (T : List Int) (q p : Addr), Best ps gs n c T → H q = none → H p = none → p ≠ q → Q (.ref p) (upd (upd H q (.lst (T.map V.int))) p (.tup [.int c, .ref q]))
def spFewPaper (C : Addr) : Sp := fun vs H Q _ => ND H ∧ ∃ r ps gs n, vs = [.ref r, .int n] ∧ RingAt C H r ps gs ∧ Good ps gs ∧ gs.length ≤ 60 ∧ 1 ≤ n ∧
  ∀ (p : Addr) (H2 : Hp) (c : Int) (T : List Int), Best ps gs n c T → Ex H H2 → Clo H H2 → PapT (fun a => H a = none) H2 p c T (gs.map (leapsM ps gs (W ps - c - 1) n)) → Q (.ref p) H2
def farV (ps : List Int) : V → V → V
  | .int i, .int j => .int (far ps i j)
  | _, _ => .non
theorem iso_len {gs T : List Int} {n : Int} (h : IsSet gs n T) : T ≠ [] := fun e => by
  have := h.one
  rw [e] at this
  exact absurd this (by decide)
section
variable {P : Program} {w : World} {K : PySem.W.Frag} {mg : Str → Option Value} {base : Heap} {C f : Addr} {fd : FuncData}
theorem ok_P_few_cost (T : Txt K mg C) (F : Fun K "few_cost" "few_cost" s_P_few_cost f fd) (c_P_distinct : C8.Cal P w K mg base 1 "distinct" spDistinct []) (c_R_far : C8.Met P w K mg base 2 C "far" (spFar C) []) (c_P_choice_of_doors : C8.Cal P w K mg base 5 "choice_of_doors" (spChoice C) []) :
    FnOk P w K mg base CX0 6 f fd ["ring", "lanes"] (spFewCost C) := by
  refine okF F sc_P_few_cost (fun vs H Q E h => h.1) (fun vs H Q E h => ?_) (fun cdv A outer s0 H vs Q E hr h => ?_)
  · obtain ⟨_, r, ps, gs, n, rfl, _⟩ := h
    rfl
  · obtain ⟨nd, r, ps, gs, n, rfl, R, g, hz, hn, q⟩ := h
    refine ⟨_, (pss_cons (ps_set (i := 2) sc_P_few_cost.nd rfl (Or.inl rfl) (C8.pe_c c_P_distinct hr (by decide) (by rfl) (pa_cons (pe_lc2 (wi1 := iTup K (tFld K (tVar 0) "doors")) (own := [("first", 3), ("second", 4)]) (vs1 := [4]) (g := gName 3) (tt := tYes) (g1 := gName 4) (tt1 := tYes) rfl sc_P_few_cost.nd (pi_tup (pe_fld (pv 0) rfl)) (blkOk_by (N := ["ring", "lanes", "costs", "first", "second", "low", "high", "best", "middle", "found"]) (sc := defScope s_P_few_cost) (by decide +kernel)) (by decide) (fun _ _ _ _ _ => pg_name (i := 3) sc_P_few_cost.nd rfl (Or.inl rfl)) (fun _ _ _ _ _ => pts_nil) (fun _ _ _ _ _ => (pi_tup (pe_fld (pv 0) rfl))) (fun _ _ _ _ _ => pg_name (i := 4) sc_P_few_cost.nd rfl (Or.inl rfl)) (fun _ _ _ _ _ => pts_nil) (fun _ _ _ _ _ => (C8.pe_mt c_R_far hr (by decide) (pv 0) (pa_cons (pv 3) (pa_cons (pv 4) pa_nil))))) pa_nil)))
      (pss_cons (ps_set (i := 5) sc_P_few_cost.nd rfl (Or.inl rfl) pe_int)
      (pss_cons (ps_set (i := 6) sc_P_few_cost.nd rfl (Or.inl rfl) (pe_op op_sub (pe_callB (show CallR _ _ (kLen K) from call_len_seq) (by rfl) T.len bt_len (pa_cons (pv 2) pa_nil)) pe_int))
      (pss_cons (ps_set (i := 7) sc_P_few_cost.nd rfl (Or.inl rfl) (pe_lst (pa_cons (pe_ix (show IxR _ (rIxT K) from ix_tup) (pe_fld (pv 0) rfl) pe_int (fun _ _ => rfl)) pa_nil)))
      (pss_cons (ps_while PassesOwn.never (pt_cmpR op_lt (pv 5) (pv 6) (nomark _)) (pss_cons (ps_set (i := 8) sc_P_few_cost.nd rfl (Or.inl rfl) (pe_op op_fdiv (pe_op op_add (pe_op op_add (pv 5) (pv 6)) pe_int) pe_int))
        (pss_cons (ps_set (i := 9) sc_P_few_cost.nd rfl (Or.inl rfl) (C8.pe_c c_P_choice_of_doors hr (by decide) (by rfl) (pa_cons (pv 0) (pa_cons (pv 1) (pa_cons (pe_ix (show IxR _ (rIxL K) from ix_list) (pv 2) (pv 8) (fun _ _ => rfl)) pa_nil)))))
        (pss_one (ps_if (pt_cmpR op_isN (pv 9) pe_non (nomark _)) (pss_one (ps_set (i := 6) sc_P_few_cost.nd rfl (Or.inl rfl) (pe_op op_sub (pv 8) pe_int))) (pss_cons (ps_set (i := 5) sc_P_few_cost.nd rfl (Or.inl rfl) (pv 8))
          (pss_one (ps_set (i := 7) sc_P_few_cost.nd rfl (Or.inl rfl) (pv 9)))))))))
      (pss_one (ps_ret (pe_tup (pa_cons (pe_ix (show IxR _ (rIxL K) from ix_list) (pv 2) (pv 5) (fun _ _ => rfl)) (pa_cons (pv 7) pa_nil)))))))))), ?_⟩
    obtain ⟨dx, a, b, cc, d, h1, h2, ⟨ob, hob, h3⟩, h4⟩ := id R
    have sb : SqT K H b (gs.map V.int) := sqF h3
    refine r_seq (r_asg (r_call (r_cons ((mk_lc2T (farV ps) (va_fld (va_var rfl) h1 T.cl T.n3 fs_doors) sb (by rw [List.length_map]; omega) (by rw [List.length_map]; omega) (fun _ => rfl) (fun _ _ => rfl) (fun x D zs hD hx => ?_) sb (fun x y D zs hD hx hy => ?_)).go fun p0 np0 => r_nil ?_))))
    · exact va_fld (va_var rfl) (Ex.new hD _ _ h1) T.cl T.n3 fs_doors
    · obtain ⟨i, hi, rfl⟩ := List.mem_map.mp hx
      obtain ⟨j, hj, rfl⟩ := List.mem_map.mp hy
      have i1 := g.inn hi
      have i2 := g.inn hj
      exact va_far (va_var rfl) (vs_cons (va_var rfl) (vs_cons (va_var rfl) vs_nil)) (nd_lst nd) (RingAt.ex (Ex.new hD) R) ⟨i1.1, Int.le_of_lt i1.2⟩ ⟨i2.1, Int.le_of_lt i2.2⟩
    · have ef := flat_map (far ps) gs V.int (farV ps) (fun _ _ => rfl) gs
      have el : (gs.flatMap fun a => gs.map (far ps a)).length ≤ 4000 := by
        rw [flat_len]
        have : gs.length * gs.length ≤ 60 * 60 := Nat.mul_le_mul hz hz
        omega
      refine ⟨nd_lst nd, p0, gs.flatMap (fun a => gs.map (far ps a)), rfl, by rw [upd_same]; exact congrArg (fun z => some (HO.lst z)) ef, el, fun cs pc asc mem npc => ?_⟩
      have e1 : Ex H (upd H p0 (.lst ((gs.map V.int).flatMap fun x => (gs.map V.int).map (farV ps x)))) := Ex.new np0
      have e2 := e1.trans (Ex.new (o := .lst (cs.map V.int)) npc)
      have nd2 : ND (upd (upd H p0 (.lst ((gs.map V.int).flatMap fun x => (gs.map V.int).map (farV ps x)))) pc (.lst (cs.map V.int))) := nd_lst (nd_lst nd)
      have hpc : (upd (upd H p0 (.lst ((gs.map V.int).flatMap fun x => (gs.map V.int).map (farV ps x)))) pc (.lst (cs.map V.int))) pc = some (.lst (cs.map V.int)) := upd_same
      generalize (upd (upd H p0 (.lst ((gs.map V.int).flatMap fun x => (gs.map V.int).map (farV ps x)))) pc (.lst (cs.map V.int))) = H2 at e2 nd2 hpc ⊢
      have mem' : ∀ k, k ∈ cs ↔ ∃ a ∈ gs, ∃ b ∈ gs, k = far ps a b := fun k => by
        rw [mem k, List.mem_flatMap]
        constructor
        · rintro ⟨a, ha, hk⟩
          obtain ⟨b, hb, rfl⟩ := List.mem_map.mp hk
          exact ⟨a, ha, b, hb, rfl⟩
        · rintro ⟨a, ha, b, hb, rfl⟩
          exact ⟨a, ha, List.mem_map.mpr ⟨b, hb, rfl⟩⟩
      have sc : ∀ {H' : Hp}, Ex H2 H' → SqL K H' pc (cs.map V.int) := fun e => SqL.of (e _ _ hpc)
      have hgl : 0 < gs.length := List.length_pos_iff.mpr g.ne
      obtain ⟨x0, hx0⟩ : ∃ x0, gs[0]? = some x0 := ⟨gs[0], List.getElem?_eq_getElem hgl⟩
      obtain ⟨hcl, st⟩ := srch_start g hn asc mem' (List.mem_of_getElem? hx0)
      refine w_asg va_c ?_
      refine w_asg va_c ?_
      refine w_asg (va_op (va_cb (vs_cons (va_var rfl) vs_nil) (rc_lenLI (sc (Ex.refl _)))) va_c rv_I0) ?_
      refine w_asgN (mk_lst (vs_cons (va_op (va_fld (va_var rfl) (e2 _ _ h1) T.cl T.n3 fs_doors) va_c (rv_ixT (ex_t e2 sb) (at_int (n := 0) hx0))) vs_nil) (by show 1 ≤ 100000; decide)) (fun pb npb => ?_)
      refine w_while (fun m σ' H' => ∃ (lo hi : Nat) (U : List Int) (pb : Addr) (v1 v2 : Option V), σ' = [some (.ref r), some (.int n), some (.ref pc), none, none, some (.int (lo : Int)), some (.int (hi : Int)), some (.ref pb), v1, v2] ∧ Ex H2 H' ∧ ND H' ∧ H pb = none ∧ H' pb = some (.lst (U.map V.int)) ∧ Srch ps gs n cs lo hi U ∧ m = hi - lo) (cs.length - 1)
        ⟨0, cs.length - 1, [x0], pb, none, none, ?_, Ex.new npb, nd_lst nd2, fresh_back e2 npb, upd_same, st, rfl⟩ ?_
      · exact congrArg (fun z => [some (V.ref r), some (V.int n), some (V.ref pc), none, none, some (V.int 0), some (V.int z), some (V.ref pb), none, none]) (show (cs.length : Int) - 1 = ((cs.length - 1 : Nat) : Int) by omega)
      · rintro m σ' H' ⟨lo, hi, U, pb, v1, v2, rfl, e3, nd3, hpb0, hpb, S, rfl⟩
        refine ⟨_, an_test (va_op (va_var rfl) (va_var rfl) rv_I0), fun b => ?_, fun b => ?_⟩
        · have b := of_decide_eq_true b
          have b' : lo < hi := by omega
          have hl := S.lt
          refine ⟨fun σ2 H2' => ∃ m', m' < hi - lo ∧ ∃ (lo hi : Nat) (U : List Int) (pb : Addr) (v1 v2 : Option V), σ2 = [some (.ref r), some (.int n), some (.ref pc), none, none, some (.int (lo : Int)), some (.int (hi : Int)), some (.ref pb), v1, v2] ∧ Ex H2 H2' ∧ ND H2' ∧ H pb = none ∧ H2' pb = some (.lst (U.map V.int)) ∧ Srch ps gs n cs lo hi U ∧ m' = hi - lo, fun σ2 H2' z => z, ?_⟩
          have em : ((lo : Int) + (hi : Int) + 1) / 2 = (((lo + hi + 1) / 2 : Nat) : Int) := by omega
          have mlo : lo < (lo + hi + 1) / 2 := by omega
          have mhi : (lo + hi + 1) / 2 ≤ hi := by omega
          refine w_asg (va_is (va_op (va_op (va_op (va_var rfl) (va_var rfl) rv_I0) va_c rv_I0) va_c (rv_I (by first | exact (by decide : (0 : Int) < 2) | (unfold CDiv; decide) | (unfold CDiv; omega)))) (congrArg V.int em)) ?_
          generalize (lo + hi + 1) / 2 = mid at mlo mhi
          have hmid : (mid : Int) < (cs.length : Int) := by omega
          refine r_seq (r_asg (r_call ((vs_cons (va_var rfl) (vs_cons (va_var rfl) (vs_cons (va_op (va_var rfl) (va_var rfl) (rv_ixL (sc e3) (at_gi (by omega) hmid))) vs_nil))).go ?_)))
          refine ⟨nd3, r, ps, gs, n, gi cs (mid : Int), rfl, RingAt.ex (e2.trans e3) R, g, by omega, hn, fun hno => ?_, fun T' p2 hs hc np2 => ?_⟩
          · refine e_if (an_test (va_isN (va_var rfl))) (fun _ => ?_) (fun z => ?_)
            · refine e_asg (va_is (va_op (va_var rfl) va_c rv_I0) (congrArg V.int (show (mid : Int) - 1 = ((mid - 1 : Nat) : Int) by omega))) ?_
              exact ⟨mid - 1 - lo, by omega, lo, mid - 1, U, pb, _, _, rfl, e3, nd3, hpb0, hpb, srch_none asc S mlo mhi hno, rfl⟩
            · rw [decide_eq_true rfl] at z
              cases z
          · refine e_if (an_test (va_isN (va_var rfl))) (fun z => ?_) (fun _ => ?_)
            · rw [non_ref] at z
              cases z
            · refine w_asg (va_var rfl) ?_
              refine e_asg (va_var rfl) ?_
              exact ⟨hi - mid, by omega, mid, hi, T', p2, _, _, rfl, e3.trans (Ex.new np2), nd_lst nd3, fresh_back (e2.trans e3) np2, upd_same, srch_some S mhi hs hc, rfl⟩
        · have b := of_decide_eq_false b
          have hb := srch_end asc S (by omega)
          have hlt := Nat.lt_of_le_of_lt S.le S.lt
          refine w_retN (mk_tup (vs_cons (va_op (va_var rfl) (va_var rfl) (rv_ixL (sc e3) (at_gi (by omega) (by omega)))) (vs_cons (va_var rfl) vs_nil)) (by show 2 ≤ 100000; decide)) (fun p np => ?_)
          have ee := e2.trans e3
          have npp : p ≠ pb := fun e => by rw [e, hpb] at np; cases np
          exact rt_two (u := .lst (U.map V.int)) hpb0 (fresh_back ee np) npp (ee.trans (Ex.new np)) (by rw [upd_ne npp.symm]; exact hpb) upd_same True.intro True.intro (q _ U pb p hb hpb0 (fresh_back ee np) npp)
end
end Fp

/-! ## D8 -/
set_option Elab.async false
set_option linter.all false
set_option maxRecDepth 100000
set_option maxHeartbeats 4000000
namespace Fp
open PySem L2 Fv
open Evl (Ex Ex.refl Ex.trans Ex.new fresh_back ex_rd ex_l ex_t)
open Fw
local macro_rules | `(tactic| walk_at "va") => `(tactic| first
  | with_reducible exact va_c
  | ((with_reducible apply va_var); exact rfl)
  | with_reducible exact vs_nil
  | ((with_reducible apply vs_cons) <;> walk_at "va")
  | ((with_reducible apply va_op) <;> walk_at "va")
  | ((with_reducible apply va_un) <;> walk_at "va")
  | ((with_reducible apply va_cb) <;> walk_at "va")
  | ((with_reducible apply va_call) <;> walk_at "va")
  | ((with_reducible apply an_test) <;> walk_at "va")
  | ((with_reducible apply an_B) <;> walk_at "va")
  | ((with_reducible apply an_not) <;> walk_at "va")
  | ((with_reducible apply va_chain) <;> walk_at "va")
  | ((with_reducible apply mk_lst) <;> first | walk_at "va" | (show _ ≤ 100000; decide))
  | ((with_reducible apply mk_tup) <;> first | walk_at "va" | (show _ ≤ 100000; decide))
  | ((with_reducible apply mk_cb) <;> walk_at "va")
  | ((with_reducible apply mk_call) <;> walk_at "va")
  | with_reducible exact rv_I0
  | with_reducible exact rv_eqI
  | with_reducible exact rv_neI
  | with_reducible exact ru_neg
  | with_reducible exact rc_int1
  | with_reducible exact rc_abs
  | with_reducible exact rc_max2
  | with_reducible exact rc_min2
  | ((with_reducible apply rc_sum); assumption)
  | ((with_reducible apply rc_lenLI); assumption)
  | ((with_reducible apply rc_lenTI); assumption)
  | ((with_reducible apply rc_lenL); assumption)
  | ((with_reducible apply rc_lenT); assumption)
  | ((with_reducible apply rv_ixL) <;> assumption)
  | ((with_reducible apply rv_ixT) <;> assumption)
  | ((with_reducible apply rv_ixSL) <;> assumption)
  | ((with_reducible apply rv_ixST) <;> assumption)
  | ((with_reducible apply rv_inL); assumption)
  | ((with_reducible apply rv_inT); assumption)
  | ((with_reducible apply rv_ninL); assumption)
  | ((with_reducible apply rv_ninT); assumption)
  | ((with_reducible apply rn_listL); assumption)
  | ((with_reducible apply rn_listT); assumption)
  | ((with_reducible apply rn_tupleL); assumption)
  | assumption)
/-! ### few_paper, is_choice, check_few -/
def spIsChoice (C : Addr) : Sp := fun vs H Q _ => ND H ∧ ∃ r ps gs n p ch, vs = [.ref r, .int n, .ref p] ∧ RingAt C H r ps gs ∧ H p = some (.lst (ch.map V.int)) ∧ ch.length ≤ 1000 ∧ ∀ b : Bool, (b = true ↔ IsSet gs n ch) → Q (.bl b) H
def spCheckFew (C : Addr) : Sp := fun vs H Q _ => ND H ∧ ∃ r ps gs n p c ds ls, vs = [.ref r, .int n, .ref p] ∧ RingAt C H r ps gs ∧ Good ps gs ∧ gs.length ≤ 1000 ∧ PapT (fun _ => True) H p c ds ls ∧ ds.length ≤ 1000 ∧ ls.length ≤ 1000 ∧ ∀ b : Bool, (b = true ↔ Acc ps gs n c ds ls) → Q (.bl b) H
theorem iff_no {p : Prop} (h : ¬ p) : (false = true ↔ p) := ⟨fun z => Bool.noConfusion z, fun z => (h z).elim⟩
theorem iff_yes {p : Prop} (h : p) : (true = true ↔ p) := ⟨fun _ => h, fun _ => rfl⟩
section
variable {P : Program} {w : World} {K : PySem.W.Frag} {mg : Str → Option Value} {base : Heap} {C f : Addr} {fd : FuncData}
theorem ok_P_few_paper (T : Txt K mg C) (F : Fun K "few_paper" "few_paper" s_P_few_paper f fd) (c_P_few_cost : C8.Cal P w K mg base 6 "few_cost" (spFewCost C) []) (c_P_leaps : C8.Cal P w K mg base 5 "leaps" (spLeaps C) []) :
    FnOk P w K mg base CX0 7 f fd ["ring", "lanes"] (spFewPaper C) := by
  refine okF F sc_P_few_paper (fun vs H Q E h => h.1) (fun vs H Q E h => ?_) (fun cdv A outer s0 H vs Q E hr h => ?_)
  · obtain ⟨_, r, ps, gs, n, rfl, _⟩ := h
    rfl
  · obtain ⟨nd, r, ps, gs, n, rfl, R, g, hz, hn, q⟩ := h
    refine ⟨_, (pss_cons (ps_asg (C8.pe_c c_P_few_cost hr (by decide) (by rfl) (pa_cons (pv 0) (pa_cons (pv 1) pa_nil))) (pg_tup (by rfl) (pgs_cons (pg_name (i := 2) sc_P_few_paper.nd rfl (Or.inr rfl)) (pgs_cons (pg_name (i := 3) sc_P_few_paper.nd rfl (Or.inl rfl)) pgs_nil))))
      (pss_one (ps_ret (pe_tup (pa_cons (pv 2) (pa_cons (pv 3) (pa_cons (pe_lc (own := [("door", 4)]) (g := gName 4) (tt := tYes) rfl sc_P_few_paper.nd (pi_tup (pe_fld (pv 0) rfl)) (blkOk_by (N := ["ring", "lanes", "cost", "doors", "door"]) (sc := defScope s_P_few_paper) (by decide +kernel)) (fun _ _ _ _ _ => pg_name (i := 4) sc_P_few_paper.nd rfl (Or.inl rfl)) (fun _ _ _ _ _ => pts_nil) (fun _ _ _ _ _ => (C8.pe_c c_P_leaps hr (by decide) (by rfl) (pa_cons (pv 0) (pa_cons (pv 4) (pa_cons (pv 1) (pa_cons (pv 2) pa_nil))))))) pa_nil))))))), ?_⟩
    obtain ⟨dx, a, b, cc, d, h1, h2, ⟨ob, hob, h3⟩, h4⟩ := id R
    refine r_seq (r_asg (r_call ((vs_cons (va_var rfl) (vs_cons (va_var rfl) vs_nil)).go ?_)))
    refine ⟨nd, r, ps, gs, n, rfl, R, g, hz, hn, fun c U q1 p1 hB nq np npq => ?_⟩
    have np1 : upd H q1 (.lst (U.map V.int)) p1 = none := by rw [upd_ne npq]; exact np
    have e1 : Ex H (upd (upd H q1 (HO.lst (U.map V.int))) p1 (HO.tup [V.int c, V.ref q1])) := (Ex.new nq).trans (Ex.new np1)
    have nd1 : ND (upd (upd H q1 (HO.lst (U.map V.int))) p1 (HO.tup [V.int c, V.ref q1])) := nd_tup (nd_lst nd)
    have c1 : Clo H (upd (upd H q1 (HO.lst (U.map V.int))) p1 (HO.tup [V.int c, V.ref q1])) := clo_trans (Ex.new nq) (Ex.new np1) (Clo.new True.intro) (Clo.new True.intro)
    have hq1 : (upd (upd H q1 (HO.lst (U.map V.int))) p1 (HO.tup [V.int c, V.ref q1])) q1 = some (.lst (U.map V.int)) := by rw [upd_ne npq.symm, upd_same]
    refine ⟨p1, [.int c, .ref q1], rfl, SqT.of upd_same, rfl, _, _, rfl, _, _, rfl, rfl, ?_⟩
    generalize (upd (upd H q1 (HO.lst (U.map V.int))) p1 (HO.tup [V.int c, V.ref q1])) = H1 at e1 nd1 c1 hq1
    refine r_ret (r_tup (r_cons ((va_var rfl).go (r_cons ((va_var rfl).go (r_cons ?_))))))
    have lx : ∀ i x, (gs.map V.int)[i]? = some x → ∃ s, gs[i]? = some s ∧ x = V.int s := fun i x hx => by
      rw [List.getElem?_map] at hx
      cases hy : gs[i]? with
      | none => rw [hy] at hx; cases hx
      | some s => rw [hy] at hx; cases hx; exact ⟨s, hy, rfl⟩
    refine lc_newT (fun i => ((leapsM ps gs (W ps - c - 1) n (gs.getD i 0)).map V.int)) nd1 (va_fld (va_var rfl) (e1 _ _ h1) T.cl T.n3 fs_doors) (ex_t e1 (sqF h3)) (by rw [List.length_map]; omega) (fun _ => rfl) (fun i x H' hx ex nd' => ?_) (fun Dl H2 as hD ex clo nd2 hDl rows => ?_)
    · obtain ⟨s, hs, rfl⟩ := lx i x hx
      have es : gs.getD i 0 = s := by rw [List.getD_eq_getElem?_getD, hs]; rfl
      rw [es]
      exact mk_call (vs_cons (va_var rfl) (vs_cons (va_var rfl) (vs_cons (va_var rfl) (vs_cons (va_var rfl) vs_nil)))) (fun Q E q => ⟨nd', r, ps, gs, s, n, c, rfl, RingAt.ex (e1.trans ex) R, g, by omega, List.mem_of_getElem? hs, q⟩)
    · refine r_nil ⟨(by show 3 ≤ sizeLine; decide), fun p np2 => ?_⟩
      have L := lli_rows (ls := gs.map (leapsM ps gs (W ps - c - 1) n)) hD hDl rows (by rw [List.length_map, List.length_map]) (fun i l hl => by
        rw [List.getElem?_map] at hl
        cases hy : gs[i]? with
        | none => rw [hy] at hl; cases hl
        | some s =>
          rw [hy] at hl
          cases hl
          rw [List.getD_eq_getElem?_getD, hy]
          rfl)
      have ee := e1.trans ex
      have cl2 := clo_trans e1 ex c1 clo
      refine rt_any (ee.trans (Ex.new np2)) (clo_trans ee (Ex.new np2) cl2 (Clo.new True.intro)) (q p _ c U hB (ee.trans (Ex.new np2)) (clo_trans ee (Ex.new np2) cl2 (Clo.new True.intro)) ⟨fresh_back ee np2, _, upd_same, q1, Dl, rfl, nq, ?_, ?_⟩)
      · exact Ex.new np2 _ _ (ex _ _ hq1)
      · exact (L.ex (Ex.new np2)).imp fun a ha => fresh_back e1 ha
theorem ok_P_is_choice (T : Txt K mg C) (F : Fun K "is_choice" "is_choice" s_P_is_choice f fd) : FnOk P w K mg base CX0 1 f fd ["ring", "lanes", "doors"] (spIsChoice C) := by
  refine okF F sc_P_is_choice (fun vs H Q E h => h.1) (fun vs H Q E h => ?_) (fun cdv A outer s0 H vs Q E hr h => ?_)
  · obtain ⟨_, r, ps, gs, n, p, ch, rfl, _⟩ := h
    rfl
  · obtain ⟨nd, r, ps, gs, n, p, ch, rfl, R, hp, hz, q⟩ := h
    refine ⟨_, (pss_cons (ps_if (pt_not (pt_chain op_le op_le pe_int (pe_callB call_len_seq (by rfl) T.len bt_len (pa_cons (pv 2) pa_nil)) (pv 1))) (pss_one (ps_ret pe_bl)) pss_nil)
      (pss_cons (ps_for PassesOwn.never rfl (pi_range1 (by rfl) T.range (pa_cons (pe_callB call_len_seq (by rfl) T.len bt_len (pa_cons (pv 2) pa_nil)) pa_nil)) (pg_name (i := 3) sc_P_is_choice.nd rfl (Or.inl rfl)) (pss_one (ps_if (PW.pt (pw_or (pt_cmpR op_notIn_seq (pe_ix ix_list (pv 2) (pv 3) (fun _ _ => rfl)) (pe_fld (pv 0) rfl) (by rfl)) (pw_or1 (PW.pt (pw_and (pt_cmpR op_gt (pv 3) pe_int (nomark _)) (pw_and1 (pt_cmpR op_le (pe_ix ix_list (pv 2) (pv 3) (fun _ _ => rfl)) (pe_ix ix_list (pv 2) (pe_op op_sub (pv 3) pe_int) (fun _ _ => rfl)) (nomark _)))))))) (pss_one (ps_ret pe_bl)) pss_nil)))
      (pss_one (ps_ret pe_bl)))), ?_⟩
    obtain ⟨dx, a, b, cc, d, h1, h2, ⟨ob, hob, h3⟩, h4⟩ := id R
    have sp := SqL.of (K := K) hp
    have sd : SqT K H b (gs.map V.int) := sqF h3
    have no : ∀ {H' : Hp}, H' = H → ¬ IsSet gs n ch → Rt H Q (.bl false) H' := fun e h => by subst e; exact rt_val (Ex.refl _) (q false (iff_no h))
    refine w_when (an_not (an_test (va_chain va_c (va_cb (vs_cons (va_var rfl) vs_nil) (rc_lenLI sp)) (va_var rfl)))) (fun b => ?_) (fun b => ?_)
    · refine w_ret va_c (no rfl fun s => ?_)
      have s1 := s.one
      have s2 := s.few
      rw [decide_eq_true (by omega), decide_eq_true s2] at b
      cases b
    · have b' : 1 ≤ ch.length ∧ (ch.length : Int) ≤ n := by
        rw [Bool.not_eq_false'] at b
        rw [Bool.and_eq_true, decide_eq_true_eq, decide_eq_true_eq] at b
        omega
      refine w_forR (n := ch.length) (vs_cons (va_cb (vs_cons (va_var rfl) vs_nil) (rc_lenLI sp)) vs_nil) (by omega) (fun i σ' H' => ∃ v : Option V, σ' = [some (.ref r), some (.int n), some (.ref p), v] ∧ H' = H ∧ ∀ k x, k < i → ch[k]? = some x → x ∈ gs ∧ ∀ y, 0 < k → ch[k - 1]? = some y → y < x)
        ⟨none, rfl, rfl, fun k x hk => absurd hk (Nat.not_lt_zero k)⟩ ?_ ?_
      · rintro i σ' H' hi ⟨v, rfl, rfl, hok⟩
        have hx : ch[i]? = some ch[i] := List.getElem?_eq_getElem hi
        generalize ch[i] = x at hx
        have t1 : Ans (tTest (tOp (rIn K true) (tOp (rIxL K) (tVar 2) (tVar 3)) (tFld K (tVar 0) "doors"))) [some (.ref r), some (.int n), some (.ref p), some (.int (i : Int))] H' (!decide (x ∈ gs)) :=
          an_test (va_op (va_op (va_var rfl) (va_var rfl) (rv_ixL sp (at_int hx))) (va_fld (va_var rfl) h1 T.cl T.n3 fs_doors) (rv_ninT sd))
        have t2 : ∀ y, (0 < i → ch[i - 1]? = some y) → Ans (tAnd (tTest (tOp (rI0 fun i j => .bl (decide (j < i))) (tVar 3) (tC (.int 0)))) (tTest (tOp (rI0 fun i j => .bl (decide (i ≤ j))) (tOp (rIxL K) (tVar 2) (tVar 3)) (tOp (rIxL K) (tVar 2) (tOp (rI0 fun i j => .int (i - j)) (tVar 3) (tC (.int 1))))))) [some (.ref r), some (.int n), some (.ref p), some (.int (i : Int))] H' (decide ((0 : Int) < (i : Int)) && decide (x ≤ y)) := fun y hy =>
          an_and (an_test (va_op (va_var rfl) va_c rv_I0)) (fun b => by
            have b := of_decide_eq_true b
            exact an_test (va_op (va_op (va_var rfl) (va_var rfl) (rv_ixL sp (at_int hx))) (va_op (va_var rfl) (va_is (va_op (va_var rfl) va_c rv_I0) (congrArg V.int (show (i : Int) - 1 = ((i - 1 : Nat) : Int) by omega))) (rv_ixL sp (at_int (hy (by omega))))) rv_I0))
        obtain ⟨y, hy⟩ : ∃ y, 0 < i → ch[i - 1]? = some y := by
          by_cases h0 : 0 < i
          · exact ⟨ch[i - 1], fun _ => List.getElem?_eq_getElem _⟩
          · exact ⟨0, fun z => absurd z h0⟩
        refine e_when (an_or t1 fun _ => t2 y hy) (fun b => ?_) (fun b => ?_)
        · refine w_ret va_c (no rfl fun s => ?_)
          obtain ⟨s1, s2⟩ := isset_at s hx
          rw [decide_eq_true s1, Bool.not_true, Bool.false_or, Bool.and_eq_true, decide_eq_true_eq, decide_eq_true_eq] at b
          have := s2 y (by omega) (hy (by omega))
          omega
        · rw [Bool.or_eq_false_iff] at b
          obtain ⟨b1, b2⟩ := b
          refine ⟨_, rfl, rfl, fun k z hk hz' => ?_⟩
          by_cases e : k < i
          · exact hok k z e hz'
          · have e : k = i := by omega
            subst e
            rw [hx] at hz'
            cases hz'
            refine ⟨of_decide_eq_true (by simpa using b1), fun y' h0 hy' => ?_⟩
            rw [hy h0] at hy'
            cases hy'
            rw [decide_eq_true (by omega : (0 : Int) < (k : Int)), Bool.true_and] at b2
            have := of_decide_eq_false b2
            omega
      · rintro σ' H' ⟨v, rfl, rfl, hok⟩
        refine w_ret va_c (rt_val (Ex.refl _) (q true (iff_yes (isset_of b'.1 b'.2 fun k x hx => hok k x (List.getElem?_eq_some_iff.mp hx).1 hx))))
end
end Fp

/-! ## D9 -/
set_option Elab.async false
set_option linter.all false
set_option maxRecDepth 100000
set_option maxHeartbeats 4000000
namespace Fp
open PySem L2 Fv
open Evl (Ex Ex.refl Ex.trans Ex.new fresh_back ex_rd ex_l ex_t)
open Fw
local macro_rules | `(tactic| walk_at "va") => `(tactic| first
  | with_reducible exact va_c
  | ((with_reducible apply va_var); exact rfl)
  | with_reducible exact vs_nil
  | ((with_reducible apply vs_cons) <;> walk_at "va")
  | ((with_reducible apply va_op) <;> walk_at "va")
  | ((with_reducible apply va_un) <;> walk_at "va")
  | ((with_reducible apply va_cb) <;> walk_at "va")
  | ((with_reducible apply va_call) <;> walk_at "va")
  | ((with_reducible apply an_test) <;> walk_at "va")
  | ((with_reducible apply an_B) <;> walk_at "va")
  | ((with_reducible apply an_not) <;> walk_at "va")
  | ((with_reducible apply va_chain) <;> walk_at "va")
  | ((with_reducible apply mk_lst) <;> first | walk_at "va" | (show _ ≤ 100000; decide))
  | ((with_reducible apply mk_tup) <;> first | walk_at "va" | (show _ ≤ 100000; decide))
  | ((with_reducible apply mk_cb) <;> walk_at "va")
  | ((with_reducible apply mk_call) <;> walk_at "va")
  | with_reducible exact rv_I0
  | with_reducible exact rv_eqI
  | with_reducible exact rv_neI
  | with_reducible exact ru_neg
  | with_reducible exact rc_int1
  | with_reducible exact rc_abs
  | with_reducible exact rc_max2
  | with_reducible exact rc_min2
  | ((with_reducible apply rc_sum); assumption)
  | ((with_reducible apply rc_lenLI); assumption)
  | ((with_reducible apply rc_lenTI); assumption)
  | ((with_reducible apply rc_lenL); assumption)
  | ((with_reducible apply rc_lenT); assumption)
  | ((with_reducible apply rv_ixL) <;> assumption)
  | ((with_reducible apply rv_ixT) <;> assumption)
  | ((with_reducible apply rv_ixSL) <;> assumption)
  | ((with_reducible apply rv_ixST) <;> assumption)
  | ((with_reducible apply rv_inL); assumption)
  | ((with_reducible apply rv_inT); assumption)
  | ((with_reducible apply rv_ninL); assumption)
  | ((with_reducible apply rv_ninT); assumption)
  | ((with_reducible apply rn_listL); assumption)
  | ((with_reducible apply rn_listT); assumption)
  | ((with_reducible apply rn_tupleL); assumption)
  | assumption)
/-! ### check_few -/
theorem yes_no (p : Prop) : ∃ b : Bool, (b = true ↔ p) := by
  by_cases h : p
  · exact ⟨true, iff_yes h⟩
  · exact ⟨false, iff_no h⟩
theorem iff_same {p : Prop} {b c : Bool} (h : b = true ↔ p) (k : c = true ↔ p) : b = c := by
  have e := h.trans k.symm
  cases b with
  | true => exact (e.mp rfl).symm
  | false =>
    cases c with
    | true => exact e.mpr rfl
    | false => rfl
theorem map_at {gs : List Int} {ls : List (List Int)} {f : Int → List Int} (e : ls = gs.map f) {k : Nat} {s : Int} (h : gs[k]? = some s) : ls[k]? = some (f s) := by
  rw [e, List.getElem?_map, h]
  rfl
theorem refs_at {as : List Addr} {i : Nat} {a : Addr} (h : as[i]? = some a) : atI (as.map V.ref) (i : Int) = some (.ref a) := atI_nat (by rw [List.getElem?_map, h]; rfl)
theorem acc_len {ps gs ds : List Int} {n c : Int} {ls : List (List Int)} (h : Acc ps gs n c ds ls) : ls.length = gs.length := by
  rw [h.leaps, List.length_map]
section
variable {P : Program} {w : World} {K : PySem.W.Frag} {mg : Str → Option Value} {base : Heap} {C f : Addr} {fd : FuncData}
theorem ok_P_check_few {f2 : Addr} {fd2 : FuncData} (T : Txt K mg C) (F : Fun K "check_few" "check_few" s_P_check_few f fd) (c_R_whole : C8.Met P w K mg base 1 C "whole" (spWhole C) []) (c_P_is_choice : C8.Cal P w K mg base 1 "is_choice" (spIsChoice C) [])
    (c_R_cost : MetK P w K mg base 5 C "cost" (spCost C) f2 fd2 ["self", "doors"] ["doors"]) (c_P_leaps : C8.Cal P w K mg base 5 "leaps" (spLeaps C) []) (c_P_way_round : C8.Cal P w K mg base 3 "way_round" (spWay C) []) :
    FnOk P w K mg base CX0 6 f fd ["ring", "lanes", "paper"] (spCheckFew C) := by
  refine okF F sc_P_check_few (fun vs H Q E h => h.1) (fun vs H Q E h => ?_) (fun cdv A outer s0 H vs Q E hr h => ?_)
  · obtain ⟨_, r, ps, gs, n, p, c, ds, ls, rfl, _⟩ := h
    rfl
  · obtain ⟨nd, r, ps, gs, n, p, c, ds, ls, rfl, R, g, hz, ⟨_, xs, hp, a2, b2, rfl, _, ha2, L⟩, hds, hls, q⟩ := h
    refine ⟨_, (pss_cons (ps_asg (pv 2) (pg_tup (by rfl) (pgs_cons (pg_name (i := 3) sc_P_check_few.nd rfl (Or.inl rfl)) (pgs_cons (pg_name (i := 4) sc_P_check_few.nd rfl (Or.inl rfl)) (pgs_cons (pg_name (i := 5) sc_P_check_few.nd rfl (Or.inl rfl)) pgs_nil)))))
      (pss_cons (ps_if (PW.pt (pw_or (pt_not (pt_val (C8.pe_c c_P_is_choice hr (by decide) (by rfl) (pa_cons (pv 0) (pa_cons (pv 1) (pa_cons (pv 4) pa_nil)))))) (pw_or1 (pt_cmpR op_ne (Fr0.pe_methKw (pv 0) T.cl c_R_cost.me c_R_cost.fn (hr.mono (by decide)) c_R_cost.bd pass0 (pk_cons (pe_callTy call_tuple_of (by rfl) T.tuple bt_tuple (pa_cons (pv 4) pa_nil)) pk_nil)) (pv 3) (nomark _))))) (pss_one (ps_ret pe_bl)) pss_nil)
      (pss_cons (ps_if (pt_cmpR op_ne (pe_callB call_len_seq (by rfl) T.len bt_len (pa_cons (pv 5) pa_nil)) (pe_callB call_len_seq (by rfl) T.len bt_len (pa_cons (pe_fld (pv 0) rfl) pa_nil)) (nomark _)) (pss_one (ps_ret pe_bl)) pss_nil)
      (pss_cons (ps_for PassesOwn.never rfl (pi_range1 (by rfl) T.range (pa_cons (pe_callB call_len_seq (by rfl) T.len bt_len (pa_cons (pv 5) pa_nil)) pa_nil)) (pg_name (i := 6) sc_P_check_few.nd rfl (Or.inl rfl)) (pss_cons (ps_set (i := 7) sc_P_check_few.nd rfl (Or.inl rfl) (pe_ix ix_tup (pe_fld (pv 0) rfl) (pv 6) (fun _ _ => rfl)))
        (pss_cons (ps_if (pt_cmpR (op_neD hr.units) (pe_callTy call_list_of (by rfl) T.list bt_list (pa_cons (pe_ix ix_list (pv 5) (pv 6) (fun _ _ => rfl)) pa_nil)) (C8.pe_c c_P_leaps hr (by decide) (by rfl) (pa_cons (pv 0) (pa_cons (pv 7) (pa_cons (pv 1) (pa_cons (pv 3) pa_nil))))) (nomark _)) (pss_one (ps_ret pe_bl)) pss_nil)
        (pss_one (ps_if (pt_cmpR op_lt (C8.pe_c c_P_way_round hr (by decide) (by rfl) (pa_cons (pv 0) (pa_cons (pe_ix ix_list (pe_ix ix_list (pv 5) (pv 6) (fun _ _ => rfl)) (pe_un un_neg pe_int) (fun _ _ => rfl)) (pa_cons (pv 7) pa_nil)))) (pe_op op_sub (C8.pe_mt0 c_R_whole hr (by decide) (pv 0)) (pv 3)) (nomark _)) (pss_one (ps_ret pe_bl)) pss_nil)))))
      (pss_one (ps_ret pe_bl)))))), ?_⟩
    obtain ⟨dx, a, b, cc, d, h1, h2, ⟨ob, hob, h3⟩, h4⟩ := id R
    obtain ⟨_, as, hb2, hal, hat⟩ := id L
    have no : ∀ {H' : Hp}, Ex H H' → ¬ Acc ps gs n c ds ls → Rt H Q (.bl false) H' := fun e h => rt_val e (q false (iff_no h))
    refine r_seq (r_asg ((va_var rfl).go ⟨p, _, rfl, SqT.of hp, rfl, _, _, rfl, _, _, rfl, _, _, rfl, rfl, ?_⟩))
    obtain ⟨b1, hb1⟩ := yes_no (IsSet gs n ds)
    have hv : SV (spIsChoice C) [.ref r, .int n, .ref a2] H (.bl b1) := fun Q E k => ⟨nd, r, ps, gs, n, a2, ds, rfl, R, ha2, hds, fun b' hb' => by rw [iff_same hb' hb1]; exact k⟩
    refine r_seq (r_if (r_or ((an_not (an_B (va_call (vs_cons (va_var rfl) (vs_cons (va_var rfl) (vs_cons (va_var rfl) vs_nil))) hv))).go ?_)))
    cases b1 with
    | false =>
      refine iteT (iteT ?_)
      exact w_ret va_c (no (Ex.refl _) fun z => by have := hb1.mpr z.set; cases this)
    | true =>
      have S := hb1.mp rfl
      have hne := iso_len S
      have hpos : PosL ps ds := fun x hx => by
        have := g.inn (S.mem x hx)
        exact ⟨this.1, Int.le_of_lt this.2⟩
      refine iteF (r_test (r_op ⟨_, rfl, r, dx, _, rfl, h1, no_cost, _, rfl, a2, _, rfl, .inl ⟨SqL.of ha2, fun l nl => ⟨rfl, nd_tup nd, r, ps, gs, l, ds, rfl, RingAt.ex (Ex.new nl) R, upd_same, hpos, hne, by omega, ?_⟩⟩⟩))
      have e1 : Ex H (upd H l (.tup (ds.map V.int))) := Ex.new nl
      have nd1 : ND (upd H l (.tup (ds.map V.int))) := nd_tup nd
      generalize (upd H l (.tup (ds.map V.int))) = H1 at e1 nd1
      refine (va_var rfl).go (rv_neI.go ⟨_, rfl, ?_⟩)
      by_cases ec : cost ps ds = c
      · rw [decide_eq_true ec]
        refine iteF ?_
        have sd1 : SqT K H1 b (gs.map V.int) := ex_t e1 (sqF h3)
        refine w_when (an_test (va_op (va_cb (vs_cons (va_var rfl) vs_nil) (rc_lenL (SqL.of (e1 _ _ hb2)))) (va_cb (vs_cons (va_fld (va_var rfl) (e1 _ _ h1) T.cl T.n3 fs_doors) vs_nil) (rc_lenTI sd1)) rv_neI)) (fun b' => ?_) (fun b' => ?_)
        · refine w_ret va_c (no e1 fun z => ?_)
          have := acc_len z
          rw [List.length_map, hal, this, decide_eq_true rfl] at b'
          cases b'
        · rw [Bool.not_eq_false', decide_eq_true_eq, List.length_map] at b'
          have hlg : ls.length = gs.length := by omega
          refine w_forR (n := as.length) (vs_cons (va_is (va_cb (vs_cons (va_var rfl) vs_nil) (rc_lenL (SqL.of (e1 _ _ hb2)))) (by rw [List.length_map])) vs_nil) (by omega)
            (fun i σ' H' => ∃ v1 v2 : Option V, σ' = [some (.ref r), some (.int n), some (.ref p), some (.int c), some (.ref a2), some (.ref b2), v1, v2] ∧ Ex H H' ∧ ND H' ∧ ∀ k s, k < i → gs[k]? = some s → ls[k]? = some (leapsM ps gs (W ps - c - 1) n s) ∧ W ps - c ≤ way ps (lastD s (leapsR ps (W ps - c - 1) (n - 1).toNat s (ahead gs s))) s)
            ⟨none, none, rfl, e1, nd1, fun k s hk => absurd hk (Nat.not_lt_zero k)⟩ ?_ ?_
          · rintro i σ' H' hi ⟨v1, v2, rfl, e2, nd2, hok⟩
            have hig : i < gs.length := by omega
            have hs : gs[i]? = some gs[i] := List.getElem?_eq_getElem hig
            generalize gs[i] = s at hs
            have hsg := List.mem_of_getElem? hs
            have hl : ls[i]? = some ls[i] := List.getElem?_eq_getElem (by omega)
            generalize ls[i] = lr at hl
            obtain ⟨at', q1, _, q3⟩ := hat i lr hl
            refine w_asg (va_op (va_fld (va_var rfl) (e2 _ _ h1) T.cl T.n3 fs_doors) (va_var rfl) (rv_ixT (ex_t e2 (sqF h3)) (at_int hs))) ?_
            refine r_seq (r_if (r_test (r_op ((mk_cb (vs_cons (va_op (va_var rfl) (va_var rfl) (rv_ixL (SqL.of (e2 _ _ hb2)) (refs_at q1))) vs_nil) (rn_listL (SqL.of (e2 _ _ q3)))).go fun p1 np1 => ?_))))
            have e3 := e2.trans (Ex.new (o := .lst (lr.map V.int)) np1)
            have nd3 : ND (upd H' p1 (.lst (lr.map V.int))) := nd_lst nd2
            have hp1 : (upd H' p1 (.lst (lr.map V.int))) p1 = some (.lst (lr.map V.int)) := upd_same
            generalize (upd H' p1 (.lst (lr.map V.int))) = H3 at e3 nd3 hp1
            refine (mk_call (vs_cons (va_var rfl) (vs_cons (va_var rfl) (vs_cons (va_var rfl) (vs_cons (va_var rfl) vs_nil)))) (fun Q E q => ⟨nd3, r, ps, gs, s, n, c, rfl, RingAt.ex e3 R, g, hz, hsg, q⟩)).go fun p2 np2 => ?_
            have e4 := e3.trans (Ex.new (o := .lst ((leapsM ps gs (W ps - c - 1) n s).map V.int)) np2)
            have nd4 : ND (upd H3 p2 (.lst ((leapsM ps gs (W ps - c - 1) n s).map V.int))) := nd_lst nd3
            have hp1' := Ex.new (o := .lst ((leapsM ps gs (W ps - c - 1) n s).map V.int)) np2 _ _ hp1
            refine (rv_neInts (SqL.of hp1') (SqL.of upd_same)).go ⟨_, rfl, ?_⟩
            generalize (upd H3 p2 (.lst ((leapsM ps gs (W ps - c - 1) n s).map V.int))) = H4 at e4 nd4
            by_cases el : lr = leapsM ps gs (W ps - c - 1) n s
            · rw [decide_eq_true el]
              refine iteF ?_
              have hll : atI (lr.map V.int) (-1) = some (.int (lastD s lr)) := last_ints s (by rw [el]; exact List.cons_ne_nil _ _)
              have hlg' : lastD s lr ∈ gs := by
                rw [el]
                rcases List.mem_cons.mp (lastD_mem (leapsM ps gs (W ps - c - 1) n s) s) with z | z
                · rw [z]; exact hsg
                · exact leapsM_mem hsg _ z
              have i1 := g.inn hlg'
              have i2 := g.inn hsg
              have R4 := RingAt.ex e4 R
              refine e_when (an_test (va_op (va_call (vs_cons (va_var rfl) (vs_cons (va_op (va_op (va_var rfl) (va_var rfl) (rv_ixL (SqL.of (e4 _ _ hb2)) (refs_at q1))) (va_un va_c ru_neg) (rv_ixL (SqL.of (e4 _ _ q3)) hll)) (vs_cons (va_var rfl) vs_nil))) (sv_way nd4 R4 ⟨i1.1, Int.le_of_lt i1.2⟩ ⟨i2.1, Int.le_of_lt i2.2⟩)) (va_op (va_whole (va_var rfl) nd4 R4) (va_var rfl) rv_I0) rv_I0)) (fun b' => ?_) (fun b' => ?_)
              · refine w_ret va_c (no e4 fun z => ?_)
                have b' := of_decide_eq_true b'
                have := z.back s hsg
                rw [el] at b'
                have b' : way ps (lastD s (leapsR ps (W ps - c - 1) (n - 1).toNat s (ahead gs s))) s < W ps - c := b'
                omega
              · have b' := of_decide_eq_false b'
                refine ⟨_, _, rfl, e4, nd4, fun k t hk ht => ?_⟩
                by_cases ek : k < i
                · exact hok k t ek ht
                · have ek : k = i := by omega
                  subst ek
                  rw [hs] at ht
                  cases ht
                  refine ⟨by rw [hl, el], ?_⟩
                  rw [el] at b'
                  have b' : ¬ way ps (lastD s (leapsR ps (W ps - c - 1) (n - 1).toNat s (ahead gs s))) s < W ps - c := b'
                  omega
            · rw [decide_eq_false el]
              refine iteT ?_
              refine w_ret va_c (no e4 fun z => el ?_)
              have := map_at z.leaps hs
              rw [hl] at this
              exact Option.some.inj this
          · rintro σ' H' ⟨v1, v2, rfl, e2, nd2, hok⟩
            refine w_ret va_c (rt_val e2 (q true (iff_yes ⟨S, ec, ?_, ?_⟩)))
            · refine map_of hlg fun k s l hs hl => ?_
              have := (hok k s (by have := (List.getElem?_eq_some_iff.mp hs).1; omega) hs).1
              rw [hl] at this
              exact Option.some.inj this
            · intro s hs
              obtain ⟨k, hk⟩ := List.getElem?_of_mem hs
              exact (hok k s (by have := (List.getElem?_eq_some_iff.mp hk).1; omega) hk).2
      · rw [decide_eq_false ec]
        refine iteT ?_
        exact w_ret va_c (no e1 fun z => ec z.cost)
end
end Fp

/-! ## E1 -/
set_option Elab.async false
set_option linter.all false
set_option maxRecDepth 100000
set_option maxHeartbeats 4000000
namespace Fp
open PySem L2 Fv
open Evl (Ex Ex.refl Ex.trans Ex.new fresh_back ex_rd ex_l ex_t)
open Fw
local macro_rules | `(tactic| walk_at "va") => `(tactic| first
  | with_reducible exact va_c
  | ((with_reducible apply va_var); exact rfl)
  | with_reducible exact vs_nil
  | ((with_reducible apply vs_cons) <;> walk_at "va")
  | ((with_reducible apply va_op) <;> walk_at "va")
  | ((with_reducible apply va_un) <;> walk_at "va")
  | ((with_reducible apply va_cb) <;> walk_at "va")
  | ((with_reducible apply va_call) <;> walk_at "va")
  | ((with_reducible apply an_test) <;> walk_at "va")
  | ((with_reducible apply an_B) <;> walk_at "va")
  | ((with_reducible apply an_not) <;> walk_at "va")
  | ((with_reducible apply va_chain) <;> walk_at "va")
  | ((with_reducible apply mk_lst) <;> first | walk_at "va" | (show _ ≤ 100000; decide))
  | ((with_reducible apply mk_tup) <;> first | walk_at "va" | (show _ ≤ 100000; decide))
  | ((with_reducible apply mk_cb) <;> walk_at "va")
  | ((with_reducible apply mk_call) <;> walk_at "va")
  | with_reducible exact rv_I0
  | with_reducible exact rv_eqI
  | with_reducible exact rv_neI
  | with_reducible exact ru_neg
  | with_reducible exact rc_int1
  | with_reducible exact rc_abs
  | with_reducible exact rc_max2
  | with_reducible exact rc_min2
  | ((with_reducible apply rc_sum); assumption)
  | ((with_reducible apply rc_lenLI); assumption)
  | ((with_reducible apply rc_lenTI); assumption)
  | ((with_reducible apply rc_lenL); assumption)
  | ((with_reducible apply rc_lenT); assumption)
  | ((with_reducible apply rv_ixL) <;> assumption)
  | ((with_reducible apply rv_ixT) <;> assumption)
  | ((with_reducible apply rv_ixSL) <;> assumption)
  | ((with_reducible apply rv_ixST) <;> assumption)
  | ((with_reducible apply rv_inL); assumption)
  | ((with_reducible apply rv_inT); assumption)
  | ((with_reducible apply rv_ninL); assumption)
  | ((with_reducible apply rv_ninT); assumption)
  | ((with_reducible apply rn_listL); assumption)
  | ((with_reducible apply rn_listT); assumption)
  | ((with_reducible apply rn_tupleL); assumption)
  | assumption)
/-! ### the law's small helpers -/
def spCell (K : PySem.W.Frag) : Sp := fun vs H Q _ => ND H ∧ ∃ (p : Addr) (ns : List Int) (k : Nat), vs = [.ref p, .int (k : Int)] ∧ SqL K H p (ns.map V.int) ∧ ∀ c : Int, Q (.int c) H
def spDigits : Sp := fun vs H Q _ => ND H ∧ ∃ (c z : Int) (n : Nat), vs = [.int c, .int (n : Int), .int z] ∧ n ≤ 1000 ∧ (0 < z ∧ z < 1073741824) ∧
  ∀ (p : Addr) (ds : List Int), H p = none → ds.length = n → (∀ d ∈ ds, 0 ≤ d ∧ d < z) → Q (.ref p) (upd H p (.lst (ds.map V.int)))
def priceOf (d : Int) : Int := if d % 16 = 3 then 1 + d * 1793939 % 10 ^ 9 else if d % 16 = 7 then 10 ^ 9 else 1 + d / 16 % 9
def spPrice : Sp := fun vs H Q _ => ND H ∧ ∃ d : Int, vs = [.int d] ∧ Q (.int (priceOf d)) H
def spSums : Sp := fun vs H Q _ => ND H ∧ ∃ a ps, vs = [.ref a] ∧ H a = some (.lst (ps.map V.int)) ∧ ps.length ≤ 10000 ∧ ∀ p, H p = none → Q (.ref p) (upd H p (.lst ((sums ps).map V.int)))
def spBack : Sp := fun vs H Q _ => ND H ∧ ∃ p ps i j, vs = [.ref p, .int i, .int j] ∧ H p = some (.lst ((sums ps).map V.int)) ∧ Pos ps ∧ In ps i ∧ In ps j ∧ Q (.int (way ps i j)) H
def spIsInt : Sp := fun vs H Q _ => ND H ∧ ∃ i : Int, vs = [.int i] ∧ Q (.bl true) H
def spInts : Sp := fun vs H Q _ => ND H ∧ ∃ (p : Addr) (ns : List Int), vs = [.ref p] ∧ H p = some (.lst (ns.map V.int)) ∧ Q (.bl true) H
abbrev TI0 := V.ty
section
variable {K : PySem.W.Frag} {σ : L2.St} {H : Hp} {ta : TE} {ts : TA} {i : Int} {a : Addr} {xs : List V}
theorem rc_isII : RC (rIsi K) [.int i, .ty "int"] H (.bl true) := fun _ q => ⟨_, _, _, _, true, rfl, .ty _, .base (.int i), rfl, q⟩
theorem rc_isIB : RC (rIsi K) [.int i, .ty "bool"] H (.bl false) := fun _ q => ⟨_, _, _, _, false, rfl, .ty _, .base (.int i), rfl, q⟩
theorem rc_isLL (h : H a = some (.lst xs)) : RC (rIsi K) [.ref a, .ty "list"] H (.bl true) := fun _ q => ⟨_, _, _, _, true, rfl, .ty _, .base (.lst h), rfl, q⟩
theorem rc_isTT (h : H a = some (.tup xs)) : RC (rIsi K) [.ref a, .ty "tuple"] H (.bl true) := fun _ q => ⟨_, _, _, _, true, rfl, .ty _, .base (.tup h), rfl, q⟩
end
theorem pos_pow (n : Nat) : (0 : Int) < 10 ^ n := Int.pow_pos (by decide)
theorem cpow10 (n : Nat) (h : n ≤ 100) : CPow 10 (n : Int) := ⟨by omega, by omega, by decide⟩
theorem ints_at {ns : List Int} {k : Nat} {n : Nat} (hl : ns.length = n) (hk : k < n) : ∃ z, ns[k]? = some z := ⟨ns[k], List.getElem?_eq_getElem (by omega)⟩
theorem price_pos (d : Int) : 1 ≤ priceOf d := by
  unfold priceOf
  split
  · have := (emod_range (a := d * 1793939) (pos_pow 9)).1
    exact Int.le_add_of_nonneg_right this
  · split
    · exact pos_pow 9
    · have := (emod_range (a := d / 16) (b := 9) (by decide)).1
      exact Int.le_add_of_nonneg_right this
section
variable {P : Program} {w : World} {K : PySem.W.Frag} {mg : Str → Option Value} {base : Heap} {C f : Addr} {fd : FuncData}
theorem ok_L_cell (T : Txt K mg C) (F : Fun K "_law_cell" "_law_cell" s_L_cell f fd) : FnOk P w K mg base CX0 1 f fd ["_law_script", "_law_k"] (spCell K) := by
  refine okF F sc_L_cell (fun vs H Q E h => h.1) (fun vs H Q E h => ?_) (fun cdv A outer s0 H vs Q E hr h => ?_)
  · obtain ⟨_, p, ns, k, rfl, _⟩ := h
    rfl
  · obtain ⟨nd, p, ns, k, rfl, hp, q⟩ := h
    refine ⟨_, (pss_cons (ps_if (pt_cmpR op_lt (pv 1) (pe_callB call_len_seq (by rfl) T.len bt_len (pa_cons (pv 0) pa_nil)) (nomark _)) (pss_one (ps_ret (pe_callB call_abs (by rfl) T.abs bt_abs (pa_cons (pe_ix ix_list (pv 0) (pv 1) (fun _ _ => rfl)) pa_nil)))) pss_nil)
      (pss_one (ps_ret pe_int))), ?_⟩
    refine w_when (an_test (va_op (va_var rfl) (va_cb (vs_cons (va_var rfl) vs_nil) (rc_lenLI hp)) rv_I0)) (fun b => ?_) (fun b => ?_)
    · have b := of_decide_eq_true b
      obtain ⟨z, hz⟩ := ints_at (ns := ns) (k := k) rfl (by omega)
      exact w_ret (va_cb (vs_cons (va_op (va_var rfl) (va_var rfl) (rv_ixL hp (at_int hz))) vs_nil) rc_abs) (rt_val (Ex.refl H) (q _))
    · exact w_ret va_c (rt_val (Ex.refl H) (q _))
theorem ok_L_digits (T : Txt K mg C) (F : Fun K "_law_digits" "_law_digits" s_L_digits f fd) : FnOk P w K mg base CX0 1 f fd ["_law_cell_here", "_law_count", "_law_size"] spDigits := by
  refine okF F sc_L_digits (fun vs H Q E h => h.1) (fun vs H Q E h => ?_) (fun cdv A outer s0 H vs Q E hr h => ?_)
  · obtain ⟨_, c, z, n, rfl, _⟩ := h
    rfl
  · obtain ⟨nd, c, z, n, rfl, hn, hz, q⟩ := h
    refine ⟨_, (pss_cons (ps_set (i := 3) sc_L_digits.nd rfl (Or.inl rfl) (pe_lst pa_nil))
      (pss_cons (ps_set (i := 4) sc_L_digits.nd rfl (Or.inl rfl) (pv 0))
      (pss_cons (ps_for PassesOwn.never rfl (pi_range1 (by rfl) T.range (pa_cons (pv 1) pa_nil)) (pg_name (i := 5) sc_L_digits.nd rfl (Or.inl rfl)) (pss_one (ps_if (PW.pt (pw_and (pt_cmpR op_ge (pv 0) (pe_op op_pow pe_int pe_int) (nomark _)) (pw_and1 (pt_cmpR op_gt (pv 4) pe_int (nomark _))))) (pss_cons (ps_expr (pe_bm PySem.F.plainAttrs_list PySem.F.slot_list_append PySem.F.type_list_append mt_append (pv 3) (pa_cons (pe_op op_mod (pe_callTy call_int1 (by rfl) T.int bt_int (pa_cons (pv 4) pa_nil)) (pv 2)) pa_nil)))
          (pss_one (ps_set (i := 4) sc_L_digits.nd rfl (Or.inl rfl) (pe_op op_fdiv (pv 4) (pv 2))))) (pss_cons (ps_set (i := 6) sc_L_digits.nd rfl (Or.inl rfl) (pe_op op_mod (pe_callTy call_int1 (by rfl) T.int bt_int (pa_cons (pe_op op_add (pe_op op_add (pv 0) (pe_op op_mul pe_int (pv 5))) pe_int) pa_nil)) pe_int))
          (pss_cons (ps_set (i := 6) sc_L_digits.nd rfl (Or.inl rfl) (pe_op op_mod (pe_callTy call_int1 (by rfl) T.int bt_int (pa_cons (pe_op op_mul (pv 6) (pe_op op_add (pv 6) pe_int)) pa_nil)) pe_int))
          (pss_cons (ps_set (i := 6) sc_L_digits.nd rfl (Or.inl rfl) (pe_op op_mod (pe_callTy call_int1 (by rfl) T.int bt_int (pa_cons (pe_op op_add (pe_op op_mul (pv 6) (pe_op op_add (pv 6) pe_int)) (pe_op op_mul pe_int (pv 5))) pa_nil)) pe_int))
          (pss_one (ps_expr (pe_bm PySem.F.plainAttrs_list PySem.F.slot_list_append PySem.F.type_list_append mt_append (pv 3) (pa_cons (pe_op op_mod (pe_callTy call_int1 (by rfl) T.int bt_int (pa_cons (pe_op op_fdiv (pv 6) pe_int) pa_nil)) (pv 2)) pa_nil))))))))))
      (pss_one (ps_ret (pv 3)))))), ?_⟩
    have dr : ∀ x : Int, 0 ≤ x % z ∧ x % z < z := fun x => emod_range hz.1
    refine w_asgN (mk_lst vs_nil (by show 0 ≤ 100000; decide)) (fun l nl => ?_)
    refine w_asg (va_var rfl) ?_
    refine w_forR (n := n) (vs_cons (va_var rfl) vs_nil) (by omega) (fun i σ' H' => ∃ (r : Int) (v1 v2 : Option V) (ds : List Int), σ' = [some (.int c), some (.int (n : Int)), some (.int z), some (.ref l), some (.int r), v1, v2] ∧ H' = upd H l (.lst (ds.map V.int)) ∧ ds.length = i ∧ ∀ d ∈ ds, 0 ≤ d ∧ d < z)
      ⟨c, none, none, [], rfl, rfl, rfl, fun d hd => by cases hd⟩ ?_ ?_
    · rintro i σ' H' hi ⟨r, v1, v2, ds, rfl, rfl, hl, hd⟩
      have hd' : ∀ x : Int, ∀ d ∈ ds ++ [x % z], 0 ≤ d ∧ d < z := fun x d hd0 => by
        rcases List.mem_append.mp hd0 with h | h
        · exact hd d h
        · rw [List.mem_singleton.mp h]
          exact dr x
      have hl1 : ∀ x : Int, (ds ++ [x % z]).length = i + 1 := fun x => by
        rw [List.length_append, hl]
        rfl
      have hlz : (ds.map V.int).length < 100000 := by rw [List.length_map]; omega
      have em : ∀ x : Int, upd (upd H l (.lst (ds.map V.int))) l (.lst (ds.map V.int ++ [.int (x % z)])) = upd H l (.lst ((ds ++ [x % z]).map V.int)) := fun x => by
        rw [upd_upd, List.map_append]
        rfl
      refine e_if (an_and (an_test (va_op (va_var rfl) (va_op va_c va_c (rv_I (cpow10 18 (by decide)))) rv_I0)) (fun _ => an_test (va_op (va_var rfl) va_c rv_I0))) (fun b => ?_) (fun b => ?_)
      · refine w_app upd_same (va_var rfl) (va_op (va_cb (vs_cons (va_var rfl) vs_nil) rc_int1) (va_var rfl) (rv_I hz.1)) hlz ?_
        refine e_asg (va_op (va_var rfl) (va_var rfl) (rv_I hz)) ?_
        exact ⟨_, _, _, ds ++ [r % z], rfl, em r, hl1 r, hd' r⟩
      · refine w_asg (va_op (va_cb (vs_cons (va_op (va_op (va_var rfl) (va_op va_c (va_var rfl) (rv_I (.inl (by decide)))) rv_I0) va_c rv_I0) vs_nil) rc_int1) va_c (rv_I (show (0 : Int) < 2147483647 by decide))) ?_
        have m1 := emod_range (a := c + 7919 * (i : Int) + 13) (b := 2147483647) (by decide)
        generalize (c + 7919 * (i : Int) + 13) % 2147483647 = x1 at m1
        refine w_asg (va_op (va_cb (vs_cons (va_op (va_var rfl) (va_op (va_var rfl) va_c rv_I0) (rv_I (.inl ⟨by omega, by omega⟩))) vs_nil) rc_int1) va_c (rv_I (show (0 : Int) < 2147483629 by decide))) ?_
        have m2 := emod_range (a := x1 * (x1 + 48271)) (b := 2147483629) (by decide)
        generalize (x1 * (x1 + 48271)) % 2147483629 = x2 at m2
        refine w_asg (va_op (va_cb (vs_cons (va_op (va_op (va_var rfl) (va_op (va_var rfl) va_c rv_I0) (rv_I (.inl ⟨by omega, by omega⟩))) (va_op va_c (va_var rfl) (rv_I (.inl (by decide)))) rv_I0) vs_nil) rc_int1) va_c (rv_I (show (0 : Int) < 2147483647 by decide))) ?_
        refine e_app upd_same (va_var rfl) (va_op (va_cb (vs_cons (va_op (va_var rfl) va_c (rv_I ⟨by decide, by decide⟩)) vs_nil) rc_int1) (va_var rfl) (rv_I hz.1)) hlz ?_
        exact ⟨_, _, _, _, rfl, em _, hl1 _, hd' _⟩
    · rintro σ' H' ⟨r, v1, v2, ds, rfl, rfl, hl, hd⟩
      exact w_ret (va_var rfl) (rt_new nl (Ex.new nl) upd_same True.intro (q l ds nl hl hd))
theorem ok_L_seed (T : Txt K mg C) (F : Fun K "_law_seed" "_law_seed" s_L_seed f fd) (c_L_cell : C8.Cal P w K mg base 1 "_law_cell" (spCell K) []) (c_L_digits : C8.Cal P w K mg base 1 "_law_digits" spDigits []) : FnOk P w K mg base CX0 2 f fd ["_law_script", "_law_k"] (spCell K) := by
  refine okF F sc_L_seed (fun vs H Q E h => h.1) (fun vs H Q E h => ?_) (fun cdv A outer s0 H vs Q E hr h => ?_)
  · obtain ⟨_, p, ns, k, rfl, _⟩ := h
    rfl
  · obtain ⟨nd, p, ns, k, rfl, hp, q⟩ := h
    refine ⟨_, (pss_cons (ps_if (pt_cmpR op_lt (pv 1) (pe_callB call_len_seq (by rfl) T.len bt_len (pa_cons (pv 0) pa_nil)) (nomark _)) (pss_one (ps_ret (pe_callB call_abs (by rfl) T.abs bt_abs (pa_cons (pe_ix ix_list (pv 0) (pv 1) (fun _ _ => rfl)) pa_nil)))) pss_nil)
      (pss_one (ps_ret (pe_ix ix_list (C8.pe_c c_L_digits hr (by decide) (by rfl) (pa_cons (pe_op op_add (pe_op op_add (C8.pe_c c_L_cell hr (by decide) (by rfl) (pa_cons (pv 0) (pa_cons pe_int pa_nil))) (pe_op op_mul pe_int (pv 1))) pe_int) (pa_cons pe_int (pa_cons (pe_op op_pow pe_int pe_int) pa_nil)))) pe_int (fun _ _ => rfl))))), ?_⟩
    refine w_when (an_test (va_op (va_var rfl) (va_cb (vs_cons (va_var rfl) vs_nil) (rc_lenLI hp)) rv_I0)) (fun b => ?_) (fun b => ?_)
    · have b := of_decide_eq_true b
      obtain ⟨z, hz⟩ := ints_at (ns := ns) (k := k) rfl (by omega)
      exact w_ret (va_cb (vs_cons (va_op (va_var rfl) (va_var rfl) (rv_ixL hp (at_int hz))) vs_nil) rc_abs) (rt_val (Ex.refl H) (q _))
    · refine r_ret (r_op (r_call (r_cons (r_op (r_op (r_call ((vs_cons (va_var rfl) (vs_cons va_c vs_nil)).go ?_)))))))
      refine ⟨nd, p, ns, 0, rfl, hp, fun c => ?_⟩
      refine (va_op va_c (va_var rfl) (rv_I (.inl (by decide)))).go ?_
      refine rv_I0.go (va_c.go (rv_I0.go ((vs_cons va_c (vs_cons (va_op va_c va_c (rv_I (cpow10 9 (by decide)))) vs_nil)).go ?_)))
      refine ⟨nd, _, _, 1, rfl, by decide, ⟨pos_pow 9, by decide⟩, fun l ds nl hl hd => ?_⟩
      have z1 := ints_at (k := 0) hl (by decide)
      obtain ⟨z, hz⟩ := z1
      exact va_c.go ((rv_ixL (SqL.of upd_same) (at_int hz)).go (rt_val (Ex.new nl) (q _)))
theorem ok_L_price (T : Txt K mg C) (F : Fun K "_law_price" "_law_price" s_L_price f fd) : FnOk P w K mg base CX0 1 f fd ["_law_digit"] spPrice := by
  refine okF F sc_L_price (fun vs H Q E h => h.1) (fun vs H Q E h => ?_) (fun cdv A outer s0 H vs Q E hr h => ?_)
  · obtain ⟨_, d, rfl, _⟩ := h
    rfl
  · obtain ⟨nd, d, rfl, q⟩ := h
    refine ⟨_, (pss_cons (ps_if (pt_cmpR op_eq (pe_op op_mod (pe_callTy call_int1 (by rfl) T.int bt_int (pa_cons (pv 0) pa_nil)) pe_int) pe_int (nomark _)) (pss_one (ps_ret (pe_op op_add pe_int (pe_op op_mod (pe_callTy call_int1 (by rfl) T.int bt_int (pa_cons (pe_op op_mul (pv 0) pe_int) pa_nil)) (pe_op op_pow pe_int pe_int))))) pss_nil)
      (pss_cons (ps_if (pt_cmpR op_eq (pe_op op_mod (pe_callTy call_int1 (by rfl) T.int bt_int (pa_cons (pv 0) pa_nil)) pe_int) pe_int (nomark _)) (pss_one (ps_ret (pe_op op_pow pe_int pe_int))) pss_nil)
      (pss_one (ps_ret (pe_op op_add pe_int (pe_op op_mod (pe_callTy call_int1 (by rfl) T.int bt_int (pa_cons (pe_op op_fdiv (pv 0) pe_int) pa_nil)) pe_int)))))), ?_⟩
    have e : priceOf d = if d % 16 = 3 then 1 + d * 1793939 % 10 ^ 9 else if d % 16 = 7 then 10 ^ 9 else 1 + d / 16 % 9 := rfl
    refine w_when (an_test (va_op (va_op (va_cb (vs_cons (va_var rfl) vs_nil) rc_int1) va_c (rv_I (show (0 : Int) < 16 by decide))) va_c rv_eqI)) (fun b => ?_) (fun b => ?_)
    · have b := of_decide_eq_true b
      rw [e, if_pos b] at q
      exact w_ret (va_op va_c (va_op (va_cb (vs_cons (va_op (va_var rfl) va_c (rv_I (.inr (by decide)))) vs_nil) rc_int1) (va_op va_c va_c (rv_I (cpow10 9 (by decide)))) (rv_I (pos_pow 9))) rv_I0) (rt_val (Ex.refl H) q)
    · have b := of_decide_eq_false b
      rw [e, if_neg b] at q
      refine w_when (an_test (va_op (va_op (va_cb (vs_cons (va_var rfl) vs_nil) rc_int1) va_c (rv_I (show (0 : Int) < 16 by decide))) va_c rv_eqI)) (fun b => ?_) (fun b => ?_)
      · have b := of_decide_eq_true b
        rw [if_pos b] at q
        exact w_ret (va_op va_c va_c (rv_I (cpow10 9 (by decide)))) (rt_val (Ex.refl H) q)
      · have b := of_decide_eq_false b
        rw [if_neg b] at q
        exact w_ret (va_op va_c (va_op (va_cb (vs_cons (va_op (va_var rfl) va_c (rv_I ⟨by decide, by decide⟩)) vs_nil) rc_int1) va_c (rv_I (show (0 : Int) < 9 by decide))) rv_I0) (rt_val (Ex.refl H) q)
theorem ok_L_is_int (T : Txt K mg C) (F : Fun K "_law_is_int" "_law_is_int" s_L_is_int f fd) : FnOk P w K mg base CX0 1 f fd ["_law_value"] spIsInt := by
  refine okF F sc_L_is_int (fun vs H Q E h => h.1) (fun vs H Q E h => ?_) (fun cdv A outer s0 H vs Q E hr h => ?_)
  · obtain ⟨_, i, rfl, _⟩ := h
    rfl
  · obtain ⟨nd, i, rfl, q⟩ := h
    refine ⟨_, (pss_one (ps_ret (pe_and (pe_callB call_isi (by rfl) T.isinstance bt_isinstance (pa_cons (pv 0) (pa_cons (pe_bltn (by rfl) T.int bt_int (show RelV (V.ty "int") _ from rfl)) pa_nil))) (pe_one (pe_not (pe_callB call_isi (by rfl) T.isinstance bt_isinstance (pa_cons (pv 0) (pa_cons (pe_bltn (by rfl) T.bool bt_bool (show RelV (V.ty "bool") _ from rfl)) pa_nil)))))))), ?_⟩
    exact w_ret (va_andV (va_cb (vs_cons (va_var rfl) (vs_cons va_c vs_nil)) rc_isII) (fun _ => va_notV (va_cb (vs_cons (va_var rfl) (vs_cons va_c vs_nil)) rc_isIB))) (rt_val (Ex.refl H) q)
theorem ok_L_ints (T : Txt K mg C) (F : Fun K "_law_ints" "_law_ints" s_L_ints f fd) (c_L_is_int : C8.Cal P w K mg base 1 "_law_is_int" spIsInt []) : FnOk P w K mg base CX0 2 f fd ["_law_row"] spInts := by
  refine okF F sc_L_ints (fun vs H Q E h => h.1) (fun vs H Q E h => ?_) (fun cdv A outer s0 H vs Q E hr h => ?_)
  · obtain ⟨_, p, ns, rfl, _⟩ := h
    rfl
  · obtain ⟨nd, p, ns, rfl, hp, q⟩ := h
    refine ⟨_, (pss_cons (ps_if (pt_not (pt_val (pe_callB call_isi (by rfl) T.isinstance bt_isinstance (pa_cons (pv 0) (pa_cons (pe_bltn (by rfl) T.list bt_list (show RelV (V.ty "list") _ from rfl)) pa_nil))))) (pss_one (ps_ret pe_bl)) pss_nil)
      (pss_cons (ps_for PassesOwn.never rfl (pi_list (pv 0)) (pg_name (i := 1) sc_L_ints.nd rfl (Or.inl rfl)) (pss_one (ps_if (pt_not (pt_val (C8.pe_c c_L_is_int hr (by decide) (by rfl) (pa_cons (pv 1) pa_nil)))) (pss_one (ps_ret pe_bl)) pss_nil)))
      (pss_one (ps_ret pe_bl)))), ?_⟩
    refine w_when (b := false) (an_not (an_B (va_cb (vs_cons (va_var rfl) (vs_cons va_c vs_nil)) (rc_isLL hp)))) (fun z => by cases z) (fun _ => ?_)
    refine w_forL (va_var rfl) (SqL.of hp) (fun i σ' H' => (∃ v : Option V, σ' = [some (.ref p), v]) ∧ H' = H) ⟨⟨none, rfl⟩, rfl⟩ (fun i σ' H' _ e => by rw [e.2]; exact SqL.of hp) ?_ ?_
    · rintro i x σ' H' hx ⟨⟨v, rfl⟩, rfl⟩
      rw [List.getElem?_map] at hx
      cases hy : ns[i]? with
      | none => rw [hy] at hx; cases hx
      | some y =>
        rw [hy] at hx
        cases hx
        refine e_when (b := false) (an_not (an_B (va_call (z := .bl true) (vs_cons (va_var rfl) vs_nil) (fun Q E k => ⟨nd, y, rfl, k⟩)))) (fun z => by cases z) (fun _ => ?_)
        exact ⟨⟨_, rfl⟩, rfl⟩
    · rintro σ' H' ⟨⟨v, rfl⟩, rfl⟩
      exact w_ret va_c (rt_val (Ex.refl _) q)
theorem ok_L_sums (T : Txt K mg C) (F : Fun K "_law_sums" "_law_sums" s_L_sums f fd) : FnOk P w K mg base CX0 1 f fd ["_law_prices"] spSums := by
  refine okF F sc_L_sums (fun vs H Q E h => h.1) (fun vs H Q E h => ?_) (fun cdv A outer s0 H vs Q E hr h => ?_)
  · obtain ⟨_, a, ps, rfl, _⟩ := h
    rfl
  · obtain ⟨nd, a, ps, rfl, ha, hz, q⟩ := h
    refine ⟨_, (pss_cons (ps_set (i := 1) sc_L_sums.nd rfl (Or.inl rfl) (pe_lst (pa_cons pe_int pa_nil)))
      (pss_cons (ps_for PassesOwn.never rfl (pi_list (pv 0)) (pg_name (i := 2) sc_L_sums.nd rfl (Or.inl rfl)) (pss_one (ps_expr (pe_bm PySem.F.plainAttrs_list PySem.F.slot_list_append PySem.F.type_list_append mt_append (pv 1) (pa_cons (pe_op op_add (pe_ix ix_list (pv 1) (pe_un un_neg pe_int) (fun _ _ => rfl)) (pv 2)) pa_nil)))))
      (pss_one (ps_ret (pv 1))))), ?_⟩
    refine w_asgN (mk_lst (vs_cons va_c vs_nil) (by show 1 ≤ 100000; decide)) (fun l nl => ?_)
    have sa : SqL K H a (ps.map V.int) := SqL.of ha
    refine w_forL (va_var rfl) (ex_l (Ex.new nl) sa) (fun i σ H' => ∃ d : Option V, σ = [some (.ref a), some (.ref l), d] ∧ H' = upd H l (.lst ((List.range (i + 1)).map fun (k : Nat) => V.int (S ps (k : Int)))))
      ⟨none, rfl, rfl⟩ (fun i σ H' _ ⟨_, _, e⟩ => by rw [e]; exact ex_l (Ex.new nl) sa) ?_ ?_
    · rintro i x σ H' hx ⟨d, rfl, rfl⟩
      rw [List.getElem?_map] at hx
      cases hy : ps[i]? with
      | none => rw [hy] at hx; cases hx
      | some y =>
        rw [hy] at hx
        cases hx
        have el : atI ((List.range (i + 1)).map fun (k : Nat) => V.int (S ps (k : Int))) (-1) = some (.int (S ps (i : Int))) := by
          rw [List.range_succ, List.map_append]
          exact atI_last _ _
        have hi := (List.getElem?_eq_some_iff.mp hy).1
        refine e_app upd_same (va_var rfl) (va_op (va_op (va_var rfl) (va_un va_c ru_neg) (rv_ixL (SqL.of upd_same) el)) (va_var rfl) rv_I0) (by rw [List.length_map, List.length_range]; omega) ?_
        refine ⟨_, rfl, ?_⟩
        rw [upd_upd, List.range_succ (n := i + 1), List.map_append]
        have es := S_succ hy
        have e2 : (((i + 1 : Nat) : Int)) = (i : Int) + 1 := by omega
        show upd H l (HO.lst (_ ++ [V.int (S ps (i : Int) + y)])) = upd H l (HO.lst (_ ++ [V.int (S ps ((i + 1 : Nat) : Int))]))
        rw [e2, es]
    · rintro σ H' ⟨d, rfl, rfl⟩
      have e : (List.range ((ps.map V.int).length + 1)).map (fun (k : Nat) => V.int (S ps (k : Int))) = (sums ps).map V.int := by
        unfold sums
        rw [List.map_map, List.length_map]
        rfl
      rw [e]
      exact w_ret (va_var rfl) (rt_new nl (Ex.new nl) upd_same True.intro (q l nl))
theorem sums_last {ps : List Int} : atI ((sums ps).map V.int) (-1) = some (.int (W ps)) := by
  have e : sums ps = ((List.range ps.length).map fun (i : Nat) => S ps (i : Int)) ++ [W ps] := by
    unfold sums
    rw [List.range_succ, List.map_append]
    show _ ++ [S ps (ps.length : Int)] = _
    rw [S_len]
  rw [e, List.map_append]
  exact atI_last _ _
theorem ok_L_back (T : Txt K mg C) (F : Fun K "_law_back" "_law_back" s_L_back f fd) : FnOk P w K mg base CX0 1 f fd ["_law_sums_here", "_law_last", "_law_first"] spBack := by
  refine okF F sc_L_back (fun vs H Q E h => h.1) (fun vs H Q E h => ?_) (fun cdv A outer s0 H vs Q E hr h => ?_)
  · obtain ⟨_, p, ps, i, j, rfl, _⟩ := h
    rfl
  · obtain ⟨nd, p, ps, i, j, rfl, hp, po, hi, hj, q⟩ := h
    refine ⟨_, (pss_cons (ps_if (pt_cmpR op_eq (pv 1) (pv 2) (nomark _)) (pss_one (ps_ret (pe_ix ix_list (pv 0) (pe_un un_neg pe_int) (fun _ _ => rfl)))) pss_nil)
      (pss_one (ps_ret (pe_op op_mod (pe_callTy call_int1 (by rfl) T.int bt_int (pa_cons (pe_op op_sub (pe_ix ix_list (pv 0) (pv 2) (fun _ _ => rfl)) (pe_ix ix_list (pv 0) (pv 1) (fun _ _ => rfl))) pa_nil)) (pe_ix ix_list (pv 0) (pe_un un_neg pe_int) (fun _ _ => rfl)))))), ?_⟩
    have sp := SqL.of (K := K) hp
    have hw : 0 < W ps := W_pos po (fun e => by have h0 := hi.1; have h1 := hi.2; rw [e] at h1; have h2 : i < 0 := h1; omega)
    have e : way ps i j = if i = j then W ps else far ps i j := rfl
    refine w_when (an_test (va_op (va_var rfl) (va_var rfl) rv_eqI)) (fun b => ?_) (fun b => ?_)
    · have b := of_decide_eq_true b
      rw [e, if_pos b] at q
      exact w_ret (va_op (va_var rfl) (va_un va_c ru_neg) (rv_ixL sp sums_last)) (rt_val (Ex.refl H) q)
    · have b := of_decide_eq_false b
      rw [e, if_neg b, ← far_mod po hi hj] at q
      exact w_ret (va_op (va_cb (vs_cons (va_op (va_op (va_var rfl) (va_var rfl) (rv_ixL sp (at_sums hj.1 (Int.le_of_lt hj.2)))) (va_op (va_var rfl) (va_var rfl) (rv_ixL sp (at_sums hi.1 (Int.le_of_lt hi.2)))) rv_I0) vs_nil) rc_int1) (va_op (va_var rfl) (va_un va_c ru_neg) (rv_ixL sp sums_last)) (rv_I hw)) (rt_val (Ex.refl H) q)
end
end Fp

/-! ## E2 -/
set_option Elab.async false
set_option linter.all false
set_option maxRecDepth 100000
set_option maxHeartbeats 4000000
namespace Fp
open PySem L2 Fv
open Evl (Ex Ex.refl Ex.trans Ex.new fresh_back ex_rd ex_l ex_t)
open Fw
local macro_rules | `(tactic| walk_at "va") => `(tactic| first
  | with_reducible exact va_c
  | ((with_reducible apply va_var); exact rfl)
  | with_reducible exact vs_nil
  | ((with_reducible apply vs_cons) <;> walk_at "va")
  | ((with_reducible apply va_op) <;> walk_at "va")
  | ((with_reducible apply va_un) <;> walk_at "va")
  | ((with_reducible apply va_cb) <;> walk_at "va")
  | ((with_reducible apply va_call) <;> walk_at "va")
  | ((with_reducible apply an_test) <;> walk_at "va")
  | ((with_reducible apply an_B) <;> walk_at "va")
  | ((with_reducible apply an_not) <;> walk_at "va")
  | ((with_reducible apply va_chain) <;> walk_at "va")
  | ((with_reducible apply mk_lst) <;> first | walk_at "va" | (show _ ≤ 100000; decide))
  | ((with_reducible apply mk_tup) <;> first | walk_at "va" | (show _ ≤ 100000; decide))
  | ((with_reducible apply mk_cb) <;> walk_at "va")
  | ((with_reducible apply mk_call) <;> walk_at "va")
  | with_reducible exact rv_I0
  | with_reducible exact rv_eqI
  | with_reducible exact rv_neI
  | with_reducible exact ru_neg
  | with_reducible exact rc_int1
  | with_reducible exact rc_abs
  | with_reducible exact rc_max2
  | with_reducible exact rc_min2
  | ((with_reducible apply rc_sum); assumption)
  | ((with_reducible apply rc_lenLI); assumption)
  | ((with_reducible apply rc_lenTI); assumption)
  | ((with_reducible apply rc_lenL); assumption)
  | ((with_reducible apply rc_lenT); assumption)
  | ((with_reducible apply rv_ixL) <;> assumption)
  | ((with_reducible apply rv_ixT) <;> assumption)
  | ((with_reducible apply rv_ixSL) <;> assumption)
  | ((with_reducible apply rv_ixST) <;> assumption)
  | ((with_reducible apply rv_inL); assumption)
  | ((with_reducible apply rv_inT); assumption)
  | ((with_reducible apply rv_ninL); assumption)
  | ((with_reducible apply rv_ninT); assumption)
  | ((with_reducible apply rn_listL); assumption)
  | ((with_reducible apply rn_listT); assumption)
  | ((with_reducible apply rn_tupleL); assumption)
  | assumption)
/-! ### far, gap, cost, is_set, leaps as the law has them -/
def InL (ps ch : List Int) : Prop := ∀ x ∈ ch, In ps x
def spLFar : Sp := fun vs H Q _ => ND H ∧ ∃ a ps i j, vs = [.ref a, .int i, .int j] ∧ H a = some (.lst (ps.map V.int)) ∧ ps.length ≤ 10000 ∧ In ps i ∧ In ps j ∧ Q (.int (far ps i j)) H
def spLGap : Sp := fun vs H Q _ => ND H ∧ ∃ a ps b ch k, vs = [.ref a, .ref b, .int k] ∧ H a = some (.lst (ps.map V.int)) ∧ ps.length ≤ 10000 ∧ H b = some (.lst (ch.map V.int)) ∧ InL ps ch ∧ (0 ≤ k ∧ k < (ch.length : Int)) ∧ Q (.int (gap ps ch k)) H
def spLCost : Sp := fun vs H Q _ => ND H ∧ ∃ a ps b ch, vs = [.ref a, .ref b] ∧ H a = some (.lst (ps.map V.int)) ∧ ps.length ≤ 10000 ∧ H b = some (.lst (ch.map V.int)) ∧ ch.length ≤ 10000 ∧ InL ps ch ∧ ch ≠ [] ∧ Q (.int (cost ps ch)) H
def spLSet : Sp := fun vs H Q _ => ND H ∧ ∃ a gs n p ch, vs = [.ref a, .int n, .ref p] ∧ H a = some (.lst (gs.map V.int)) ∧ H p = some (.lst (ch.map V.int)) ∧ ch.length ≤ 1000 ∧ ∀ b : Bool, (b = true ↔ IsSet gs n ch) → Q (.bl b) H
def spLLeaps : Sp := fun vs H Q _ => ND H ∧ ∃ a b ps gs s n c, vs = [.ref a, .ref b, .int s, .int n, .int c] ∧ H a = some (.lst ((sums ps).map V.int)) ∧ H b = some (.lst (gs.map V.int)) ∧ Good ps gs ∧ s ∈ gs ∧ gs.length ≤ 1000 ∧ 1 ≤ n ∧
  ∀ p, H p = none → Q (.ref p) (upd H p (.lst ((leapsM ps gs (W ps - c - 1) n s).map V.int)))
theorem far_step {ps : List Int} {i j v : Int} (hi : In ps i) (hj : In ps j) (ne : i ≠ j) (hv : gi ps i = v) : far ps i j = v + far ps ((i + 1) % (ps.length : Int)) j ∧ In ps ((i + 1) % (ps.length : Int)) := by
  obtain ⟨n, rfl⟩ := Int.eq_ofNat_of_zero_le hi.1
  have hn : n < ps.length := by have := hi.2; omega
  have e1 : ps[n]? = some v := by
    have q := gi_get hi.1 hi.2
    rw [hv] at q
    exact q
  have es := S_succ e1
  have j0 := hj.1
  have j1 := hj.2
  have i0 := hi.1
  have i1 := hi.2
  by_cases w : (n : Int) + 1 < (ps.length : Int)
  · have em : ((n : Int) + 1) % (ps.length : Int) = (n : Int) + 1 := emod_small (by omega) w
    rw [em]
    refine ⟨?_, by omega, w⟩
    unfold far
    by_cases q : (n : Int) ≤ j
    · rw [if_pos q, if_pos (by omega), es]
      omega
    · rw [if_neg q, if_neg (by omega), es]
      omega
  · have ew : (n : Int) + 1 = (ps.length : Int) := by omega
    have em : ((n : Int) + 1) % (ps.length : Int) = 0 := by rw [ew]; exact Int.emod_self
    rw [em]
    refine ⟨?_, by omega, by omega⟩
    rw [ew, S_len] at es
    unfold far
    rw [if_neg (show ¬ (n : Int) ≤ j by omega), if_pos j0, S_zero]
    omega
/-- so many steps lie between -/
def dst (ps : List Int) (i j : Int) : Int := if i ≤ j then j - i else (ps.length : Int) - i + j
theorem dst_step {ps : List Int} {i j : Int} (hi : In ps i) (hj : In ps j) (ne : i ≠ j) : dst ps ((i + 1) % (ps.length : Int)) j + 1 = dst ps i j := by
  have j0 := hj.1
  have j1 := hj.2
  have i0 := hi.1
  have i1 := hi.2
  unfold dst
  by_cases w : i + 1 < (ps.length : Int)
  · rw [emod_small (by omega) w]
    by_cases q : i ≤ j
    · rw [if_pos q, if_pos (by omega)]; omega
    · rw [if_neg q, if_neg (by omega)]; omega
  · have ew : i + 1 = (ps.length : Int) := by omega
    rw [show (i + 1) % (ps.length : Int) = 0 from by rw [ew]; exact Int.emod_self, if_pos j0, if_neg (by omega)]
    omega
theorem dst_zero {ps : List Int} {i j : Int} (hi : In ps i) (hj : In ps j) (h : dst ps i j ≤ 0) : i = j := by
  have j0 := hj.1
  have j1 := hj.2
  have i0 := hi.1
  have i1 := hi.2
  unfold dst at h
  by_cases q : i ≤ j
  · rw [if_pos q] at h; omega
  · rw [if_neg q] at h; omega
theorem dst_lt {ps : List Int} {i j : Int} (hi : In ps i) (hj : In ps j) : dst ps i j < (ps.length : Int) := by
  have j0 := hj.1
  have j1 := hj.2
  have i0 := hi.1
  have i1 := hi.2
  unfold dst
  by_cases q : i ≤ j
  · rw [if_pos q]; omega
  · rw [if_neg q]; omega
section
variable {P : Program} {w : World} {K : PySem.W.Frag} {mg : Str → Option Value} {base : Heap} {C f : Addr} {fd : FuncData}
theorem ok_L_far (T : Txt K mg C) (F : Fun K "_law_far" "_law_far" s_L_far f fd) : FnOk P w K mg base CX0 1 f fd ["_law_prices", "_law_start", "_law_end"] spLFar := by
  refine okF F sc_L_far (fun vs H Q E h => h.1) (fun vs H Q E h => ?_) (fun cdv A outer s0 H vs Q E hr h => ?_)
  · obtain ⟨_, a, ps, i, j, rfl, _⟩ := h
    rfl
  · obtain ⟨nd, a, ps, i, j, rfl, ha, hz, hi, hj, q⟩ := h
    refine ⟨_, (pss_cons (ps_set (i := 3) sc_L_far.nd rfl (Or.inl rfl) pe_int)
      (pss_cons (ps_set (i := 4) sc_L_far.nd rfl (Or.inl rfl) (pv 1))
      (pss_cons (ps_for PassesOwn.never rfl (pi_range1 (by rfl) T.range (pa_cons (pe_callB call_len_seq (by rfl) T.len bt_len (pa_cons (pv 0) pa_nil)) pa_nil)) (pg_name (i := 5) sc_L_far.nd rfl (Or.inl rfl)) (pss_one (ps_if (pt_cmpR op_ne (pv 4) (pv 2) (nomark _)) (pss_cons (ps_set (i := 3) sc_L_far.nd rfl (Or.inl rfl) (pe_op op_add (pv 3) (pe_ix ix_list (pv 0) (pv 4) (fun _ _ => rfl))))
          (pss_one (ps_set (i := 4) sc_L_far.nd rfl (Or.inl rfl) (pe_op op_mod (pe_callTy call_int1 (by rfl) T.int bt_int (pa_cons (pe_op op_add (pv 4) pe_int) pa_nil)) (pe_callB call_len_seq (by rfl) T.len bt_len (pa_cons (pv 0) pa_nil)))))) pss_nil)))
      (pss_one (ps_ret (pv 3)))))), ?_⟩
    have sa := SqL.of (K := K) ha
    refine w_asg va_c ?_
    refine w_asg (va_var rfl) ?_
    refine w_forR (n := ps.length) (vs_cons (va_cb (vs_cons (va_var rfl) vs_nil) (rc_lenLI sa)) vs_nil) (by omega) (fun k σ' H' => ∃ (t p : Int) (v : Option V), σ' = [some (.ref a), some (.int i), some (.int j), some (.int t), some (.int p), v] ∧ H' = H ∧ In ps p ∧ t + far ps p j = far ps i j ∧ (p = j ∨ dst ps p j + (k : Int) < (ps.length : Int)))
      ⟨0, i, none, rfl, rfl, hi, by omega, .inr (by have := dst_lt hi hj; omega)⟩ ?_ ?_
    · rintro k σ' H' hk ⟨t, p, v, rfl, rfl, hp, ht, hd⟩
      refine e_when (an_test (va_op (va_var rfl) (va_var rfl) rv_neI)) (fun b => ?_) (fun b => ?_)
      · have b : ¬ p = j := by
          intro e
          rw [e, decide_eq_true rfl] at b
          cases b
        obtain ⟨f1, f2⟩ := far_step hp hj b rfl
        have d1 := dst_step hp hj b
        have hm : (0 : Int) < (ps.length : Int) := by have := hp.1; have := hp.2; omega
        refine w_asg (va_op (va_var rfl) (va_op (va_var rfl) (va_var rfl) (rv_ixL sa (at_gi hp.1 hp.2))) rv_I0) ?_
        refine e_asg (va_op (va_cb (vs_cons (va_op (va_var rfl) va_c rv_I0) vs_nil) rc_int1) (va_cb (vs_cons (va_var rfl) vs_nil) (rc_lenLI sa)) (rv_I hm)) ?_
        refine ⟨_, _, _, rfl, rfl, f2, by omega, .inr ?_⟩
        rcases hd with hd | hd
        · exact absurd hd b
        · omega
      · have b : p = j := by
          rw [Bool.not_eq_false'] at b
          exact of_decide_eq_true b
        exact ⟨t, p, _, rfl, rfl, hp, ht, .inl b⟩
    · rintro σ' H' ⟨t, p, v, rfl, rfl, hp, ht, hd⟩
      have e : p = j := by
        rcases hd with hd | hd
        · exact hd
        · exact dst_zero hp hj (by omega)
      rw [e, far_self] at ht
      refine w_ret (va_var rfl) (rt_val (Ex.refl _) ?_)
      rw [show t = far ps i j by omega]
      exact q
theorem ok_L_gap (T : Txt K mg C) (F : Fun K "_law_gap" "_law_gap" s_L_gap f fd) (c_L_far : C8.Cal P w K mg base 1 "_law_far" spLFar []) : FnOk P w K mg base CX0 2 f fd ["_law_prices", "_law_gates", "_law_k"] spLGap := by
  refine okF F sc_L_gap (fun vs H Q E h => h.1) (fun vs H Q E h => ?_) (fun cdv A outer s0 H vs Q E hr h => ?_)
  · obtain ⟨_, a, ps, b, ch, k, rfl, _⟩ := h
    rfl
  · obtain ⟨nd, a, ps, b, ch, k, rfl, ha, hz, hb, hc, hk, q⟩ := h
    refine ⟨_, (pss_cons (ps_if (pt_cmpR op_eq (pe_callB call_len_seq (by rfl) T.len bt_len (pa_cons (pv 1) pa_nil)) pe_int (nomark _)) (pss_one (ps_ret (pe_callB (cr_sum rfl) (by rfl) T.sum bt_sum (pa_cons (pv 0) pa_nil)))) pss_nil)
      (pss_one (ps_ret (C8.pe_c c_L_far hr (by decide) (by rfl) (pa_cons (pv 0) (pa_cons (pe_ix ix_list (pv 1) (pv 2) (fun _ _ => rfl)) (pa_cons (pe_ix ix_list (pv 1) (pe_op op_mod (pe_callTy call_int1 (by rfl) T.int bt_int (pa_cons (pe_op op_add (pv 2) pe_int) pa_nil)) (pe_callB call_len_seq (by rfl) T.len bt_len (pa_cons (pv 1) pa_nil))) (fun _ _ => rfl)) pa_nil))))))), ?_⟩
    have sa := SqL.of (K := K) ha
    have sb := SqL.of (K := K) hb
    have e : gap ps ch k = if (ch.length : Int) = 1 then W ps else far ps (gi ch k) (gi ch ((k + 1) % (ch.length : Int))) := rfl
    refine w_when (an_test (va_op (va_cb (vs_cons (va_var rfl) vs_nil) (rc_lenLI sb)) va_c rv_eqI)) (fun b => ?_) (fun b => ?_)
    · have b := of_decide_eq_true b
      rw [e, if_pos b] at q
      exact w_ret (va_cb (vs_cons (va_var rfl) vs_nil) (rc_sum sa)) (rt_val (Ex.refl H) q)
    · have b := of_decide_eq_false b
      have m := emod_range (a := k + 1) (b := (ch.length : Int)) (by omega)
      have x1 := at_gi hk.1 hk.2
      have x2 := at_gi m.1 m.2
      have hc0 : (fun _ j : Int => 0 < j) (k + 1) (ch.length : Int) := by show 0 < (ch.length : Int); omega
      rw [e, if_neg b] at q
      exact w_ret (va_call (vs_cons (va_var rfl) (vs_cons (va_op (va_var rfl) (va_var rfl) (rv_ixL sb x1)) (vs_cons (va_op (va_var rfl) (va_op (va_cb (vs_cons (va_op (va_var rfl) va_c rv_I0) vs_nil) rc_int1) (va_cb (vs_cons (va_var rfl) vs_nil) (rc_lenLI sb)) (rv_I hc0)) (rv_ixL sb x2)) vs_nil))) (fun Q E k' => ⟨nd, a, ps, _, _, rfl, ha, hz, hc _ (gi_mem hk.1 hk.2), hc _ (gi_mem m.1 m.2), k'⟩)) (rt_val (Ex.refl H) q)
theorem ok_L_cost (T : Txt K mg C) (F : Fun K "_law_cost" "_law_cost" s_L_cost f fd) (c_L_gap : C8.Cal P w K mg base 2 "_law_gap" spLGap []) : FnOk P w K mg base CX0 3 f fd ["_law_prices", "_law_gates"] spLCost := by
  refine okF F sc_L_cost (fun vs H Q E h => h.1) (fun vs H Q E h => ?_) (fun cdv A outer s0 H vs Q E hr h => ?_)
  · obtain ⟨_, a, ps, b, ch, rfl, _⟩ := h
    rfl
  · obtain ⟨nd, a, ps, b, ch, rfl, ha, hz, hb, hzc, hc, hne, q⟩ := h
    refine ⟨_, (pss_one (ps_ret (pe_op op_sub (pe_callB (cr_sum rfl) (by rfl) T.sum bt_sum (pa_cons (pv 0) pa_nil)) (pe_callB (cr_max rfl) (by rfl) T.max bt_max (pa_cons (pe_lc (own := [("_law_k", 2)]) (g := gName 2) (tt := tYes) rfl sc_L_cost.nd (pi_range1 (by rfl) T.range (pa_cons (pe_callB (show CallR _ _ (kLen K) from call_len_seq) (by rfl) T.len bt_len (pa_cons (pv 1) pa_nil)) pa_nil)) (blkOk_by (N := ["_law_prices", "_law_gates", "_law_k"]) (sc := defScope s_L_cost) (by decide +kernel)) (fun _ _ _ _ _ => pg_name (i := 2) sc_L_cost.nd rfl (Or.inl rfl)) (fun _ _ _ _ _ => pts_nil) (fun _ _ _ _ _ => (C8.pe_c c_L_gap hr (by decide) (by rfl) (pa_cons (pv 0) (pa_cons (pv 1) (pa_cons (pv 2) pa_nil)))))) pa_nil))))), ?_⟩
    have sa := SqL.of (K := K) ha
    have sb := SqL.of (K := K) hb
    refine r_ret (r_op ((va_cb (vs_cons (va_var rfl) vs_nil) (rc_sum sa)).go (r_cb (r_cons ((mk_lcR (n := ch.length) (fun k => V.int (gap ps ch (k : Int))) (vs_cons (va_cb (vs_cons (va_var rfl) vs_nil) (rc_lenLI sb)) vs_nil) (by omega) (fun _ => rfl) (fun i D ys hD hi => ?_)).go fun D hD => r_nil ?_)))))
    · exact va_call (vs_cons (va_var rfl) (vs_cons (va_var rfl) (vs_cons (va_var rfl) vs_nil))) (fun Q E k => ⟨nd_lst nd, a, ps, b, ch, _, rfl, Ex.new hD _ _ ha, hz, Ex.new hD _ _ hb, hc, ⟨by omega, by omega⟩, k⟩)
    · have e : (List.range ch.length).map (fun (k : Nat) => V.int (gap ps ch (k : Int))) = (gaps ps ch).map V.int := by
        unfold gaps
        rw [List.map_map]
        rfl
      rw [e]
      exact rc_max1 (SqL.of upd_same) (gaps_ne hne) _ (rv_I0 _ (rt_val (Ex.new hD) q))
theorem ok_L_is_set (T : Txt K mg C) (F : Fun K "_law_is_set" "_law_is_set" s_L_is_set f fd) : FnOk P w K mg base CX0 1 f fd ["_law_gates", "_law_count", "_law_chosen"] spLSet := by
  refine okF F sc_L_is_set (fun vs H Q E h => h.1) (fun vs H Q E h => ?_) (fun cdv A outer s0 H vs Q E hr h => ?_)
  · obtain ⟨_, a, gs, n, p, ch, rfl, _⟩ := h
    rfl
  · obtain ⟨nd, a, gs, n, p, ch, rfl, ha, hp, hz, q⟩ := h
    refine ⟨_, (pss_cons (ps_if (PW.pt (pw_or (pt_cmpR op_lt (pe_callB call_len_seq (by rfl) T.len bt_len (pa_cons (pv 2) pa_nil)) pe_int (nomark _)) (pw_or1 (pt_cmpR op_gt (pe_callB call_len_seq (by rfl) T.len bt_len (pa_cons (pv 2) pa_nil)) (pv 1) (nomark _))))) (pss_one (ps_ret pe_bl)) pss_nil)
      (pss_cons (ps_for PassesOwn.never rfl (pi_range1 (by rfl) T.range (pa_cons (pe_callB call_len_seq (by rfl) T.len bt_len (pa_cons (pv 2) pa_nil)) pa_nil)) (pg_name (i := 3) sc_L_is_set.nd rfl (Or.inl rfl)) (pss_one (ps_if (PW.pt (pw_or (pt_cmpR op_notIn_seq (pe_ix ix_list (pv 2) (pv 3) (fun _ _ => rfl)) (pv 0) (by rfl)) (pw_or1 (PW.pt (pw_and (pt_cmpR op_gt (pv 3) pe_int (nomark _)) (pw_and1 (pt_cmpR op_le (pe_ix ix_list (pv 2) (pv 3) (fun _ _ => rfl)) (pe_ix ix_list (pv 2) (pe_op op_sub (pv 3) pe_int) (fun _ _ => rfl)) (nomark _)))))))) (pss_one (ps_ret pe_bl)) pss_nil)))
      (pss_one (ps_ret pe_bl)))), ?_⟩
    have sp := SqL.of (K := K) hp
    have sa := SqL.of (K := K) ha
    have no : ∀ {H' : Hp}, H' = H → ¬ IsSet gs n ch → Rt H Q (.bl false) H' := fun e h => by subst e; exact rt_val (Ex.refl _) (q false (iff_no h))
    refine w_when (an_or (an_test (va_op (va_cb (vs_cons (va_var rfl) vs_nil) (rc_lenLI sp)) va_c rv_I0)) (fun _ => an_test (va_op (va_cb (vs_cons (va_var rfl) vs_nil) (rc_lenLI sp)) (va_var rfl) rv_I0))) (fun b => ?_) (fun b => ?_)
    · refine w_ret va_c (no rfl fun s => ?_)
      have s1 := s.one
      have s2 := s.few
      rw [decide_eq_false (by omega), decide_eq_false (by omega)] at b
      cases b
    · have b' : 1 ≤ ch.length ∧ (ch.length : Int) ≤ n := by
        rw [Bool.or_eq_false_iff, decide_eq_false_iff_not, decide_eq_false_iff_not] at b
        omega
      refine w_forR (n := ch.length) (vs_cons (va_cb (vs_cons (va_var rfl) vs_nil) (rc_lenLI sp)) vs_nil) (by omega) (fun i σ' H' => ∃ v : Option V, σ' = [some (.ref a), some (.int n), some (.ref p), v] ∧ H' = H ∧ ∀ k x, k < i → ch[k]? = some x → x ∈ gs ∧ ∀ y, 0 < k → ch[k - 1]? = some y → y < x)
        ⟨none, rfl, rfl, fun k x hk => absurd hk (Nat.not_lt_zero k)⟩ ?_ ?_
      · rintro i σ' H' hi ⟨v, rfl, rfl, hok⟩
        have hx : ch[i]? = some ch[i] := List.getElem?_eq_getElem hi
        generalize ch[i] = x at hx
        have t1 : Ans (tTest (tOp (rIn K true) (tOp (rIxL K) (tVar 2) (tVar 3)) (tVar 0))) [some (.ref a), some (.int n), some (.ref p), some (.int (i : Int))] H' (!decide (x ∈ gs)) :=
          an_test (va_op (va_op (va_var rfl) (va_var rfl) (rv_ixL sp (at_int hx))) (va_var rfl) (rv_ninL sa))
        have t2 : ∀ y, (0 < i → ch[i - 1]? = some y) → Ans (tAnd (tTest (tOp (rI0 fun i j => .bl (decide (j < i))) (tVar 3) (tC (.int 0)))) (tTest (tOp (rI0 fun i j => .bl (decide (i ≤ j))) (tOp (rIxL K) (tVar 2) (tVar 3)) (tOp (rIxL K) (tVar 2) (tOp (rI0 fun i j => .int (i - j)) (tVar 3) (tC (.int 1))))))) [some (.ref a), some (.int n), some (.ref p), some (.int (i : Int))] H' (decide ((0 : Int) < (i : Int)) && decide (x ≤ y)) := fun y hy =>
          an_and (an_test (va_op (va_var rfl) va_c rv_I0)) (fun b => by
            have b := of_decide_eq_true b
            exact an_test (va_op (va_op (va_var rfl) (va_var rfl) (rv_ixL sp (at_int hx))) (va_op (va_var rfl) (va_is (va_op (va_var rfl) va_c rv_I0) (congrArg V.int (show (i : Int) - 1 = ((i - 1 : Nat) : Int) by omega))) (rv_ixL sp (at_int (hy (by omega))))) rv_I0))
        obtain ⟨y, hy⟩ : ∃ y, 0 < i → ch[i - 1]? = some y := by
          by_cases h0 : 0 < i
          · exact ⟨ch[i - 1], fun _ => List.getElem?_eq_getElem _⟩
          · exact ⟨0, fun z => absurd z h0⟩
        refine e_when (an_or t1 fun _ => t2 y hy) (fun b => ?_) (fun b => ?_)
        · refine w_ret va_c (no rfl fun s => ?_)
          obtain ⟨s1, s2⟩ := isset_at s hx
          rw [decide_eq_true s1, Bool.not_true, Bool.false_or, Bool.and_eq_true, decide_eq_true_eq, decide_eq_true_eq] at b
          have := s2 y (by omega) (hy (by omega))
          omega
        · rw [Bool.or_eq_false_iff] at b
          obtain ⟨b1, b2⟩ := b
          refine ⟨_, rfl, rfl, fun k z hk hz' => ?_⟩
          by_cases e : k < i
          · exact hok k z e hz'
          · have e : k = i := by omega
            subst e
            rw [hx] at hz'
            cases hz'
            refine ⟨of_decide_eq_true (by simpa using b1), fun y' h0 hy' => ?_⟩
            rw [hy h0] at hy'
            cases hy'
            rw [decide_eq_true (by omega : (0 : Int) < (k : Int)), Bool.true_and] at b2
            have := of_decide_eq_false b2
            omega
      · rintro σ' H' ⟨v, rfl, rfl, hok⟩
        refine w_ret va_c (rt_val (Ex.refl _) (q true (iff_yes (isset_of b'.1 b'.2 fun k x hx => hok k x (List.getElem?_eq_some_iff.mp hx).1 hx))))
theorem sv_back {H : Hp} {p : Addr} {ps : List Int} {i j : Int} (nd : ND H) (hp : H p = some (.lst ((sums ps).map V.int))) (po : Pos ps) (hi : In ps i) (hj : In ps j) : SV spBack [.ref p, .int i, .int j] H (.int (way ps i j)) := fun Q E q => ⟨nd, p, ps, i, j, rfl, hp, po, hi, hj, q⟩
theorem ok_L_leaps (T : Txt K mg C) (F : Fun K "_law_leaps" "_law_leaps" s_L_leaps f fd) (c_L_back : C8.Cal P w K mg base 1 "_law_back" spBack []) : FnOk P w K mg base CX0 2 f fd ["_law_sums_here", "_law_gates", "_law_first", "_law_count", "_law_cost_here"] spLLeaps := by
  refine okF F sc_L_leaps (fun vs H Q E h => h.1) (fun vs H Q E h => ?_) (fun cdv A outer s0 H vs Q E hr h => ?_)
  · obtain ⟨_, a, b, ps, gs, s, n, c, rfl, _⟩ := h
    rfl
  · obtain ⟨nd, a, b, ps, gs, s, n, c, rfl, ha, hb, g, hs, hz, hn, q⟩ := h
    refine ⟨_, (pss_cons (ps_set (i := 5) sc_L_leaps.nd rfl (Or.inl rfl) (pe_lst (pa_cons (pv 2) pa_nil)))
      (pss_cons (ps_for PassesOwn.never rfl (pi_range2 (by rfl) T.range (pa_cons pe_int (pa_cons (pe_callB (call_min2 rfl) (by rfl) T.min bt_min (pa_cons (pv 3) (pa_cons (pe_callB call_len_seq (by rfl) T.len bt_len (pa_cons (pv 1) pa_nil)) pa_nil))) pa_nil))) (pg_name (i := 6) sc_L_leaps.nd rfl (Or.inl rfl)) (pss_cons (ps_set (i := 7) sc_L_leaps.nd rfl (Or.inl rfl) (pe_ix ix_list (pv 0) (pe_ix ix_list (pv 5) (pe_un un_neg pe_int) (fun _ _ => rfl)) (fun _ _ => rfl)))
        (pss_cons (ps_set (i := 8) sc_L_leaps.nd rfl (Or.inl rfl) (pe_callB (call_min2 rfl) (by rfl) T.min bt_min (pa_cons (C8.pe_c c_L_back hr (by decide) (by rfl) (pa_cons (pv 0) (pa_cons (pe_ix ix_list (pv 5) (pe_un un_neg pe_int) (fun _ _ => rfl)) (pa_cons (pv 2) pa_nil)))) (pa_cons (pe_op op_sub (pe_ix ix_list (pv 0) (pe_un un_neg pe_int) (fun _ _ => rfl)) (pv 4)) pa_nil))))
        (pss_cons (ps_set (i := 9) sc_L_leaps.nd rfl (Or.inl rfl) pe_int)
        (pss_cons (ps_set (i := 10) sc_L_leaps.nd rfl (Or.inl rfl) (pe_ix ix_list (pv 5) (pe_un un_neg pe_int) (fun _ _ => rfl)))
        (pss_cons (ps_for PassesOwn.never rfl (pi_list (pv 1)) (pg_name (i := 11) sc_L_leaps.nd rfl (Or.inl rfl)) (pss_cons (ps_set (i := 12) sc_L_leaps.nd rfl (Or.inl rfl) (pe_op op_mod (pe_callTy call_int1 (by rfl) T.int bt_int (pa_cons (pe_op op_sub (pe_ix ix_list (pv 0) (pv 11) (fun _ _ => rfl)) (pv 7)) pa_nil)) (pe_ix ix_list (pv 0) (pe_un un_neg pe_int) (fun _ _ => rfl))))
          (pss_one (ps_if (PW.pt (pw_and (pt_cmpR op_gt (pv 12) (pv 9) (nomark _)) (pw_and1 (pt_cmpR op_lt (pv 12) (pv 8) (nomark _))))) (pss_cons (ps_set (i := 9) sc_L_leaps.nd rfl (Or.inl rfl) (pv 12))
            (pss_one (ps_set (i := 10) sc_L_leaps.nd rfl (Or.inl rfl) (pv 11)))) pss_nil))))
        (pss_cons (ps_if (pt_cmpR op_eq (pv 9) pe_int (nomark _)) (pss_one (ps_ret (pv 5))) pss_nil)
        (pss_one (ps_expr (pe_bm PySem.F.plainAttrs_list PySem.F.slot_list_append PySem.F.type_list_append mt_append (pv 5) (pa_cons (pv 10) pa_nil)))))))))))
      (pss_one (ps_ret (pv 5))))), ?_⟩
    have hgl : 0 < gs.length := List.length_pos_iff.mpr g.ne
    have hw : 0 < W ps := W_pos g.pos (fun e => by have := Good.len g; rw [e] at this; exact absurd this (by decide))
    refine w_asgN (mk_lst (vs_cons (va_var rfl) vs_nil) (by show 1 ≤ 100000; decide)) (fun l nl => ?_)
    have nal := ne_of_none ha nl
    have nbl := ne_of_none hb nl
    have hA : ∀ xs, (upd H l (.lst xs)) a = some (.lst ((sums ps).map V.int)) := fun xs => Ex.new nl _ _ ha
    have hB : ∀ xs, (upd H l (.lst xs)) b = some (.lst (gs.map V.int)) := fun xs => Ex.new nl _ _ hb
    have fin : ∀ ff : List Int, leapsM ps gs (W ps - c - 1) n s = ff → Rt H Q (.ref l) (upd H l (.lst (ff.map V.int))) := fun ff e => by
      subst e
      exact rt_new nl (Ex.new nl) upd_same True.intro (q l nl)
    refine w_forR2 (m := min n (gs.length : Int)) (vs_cons va_c (vs_cons (va_cb (vs_cons (va_var rfl) (vs_cons (va_cb (vs_cons (va_var rfl) vs_nil) (rc_lenLI (SqL.of (hB _)))) vs_nil)) rc_min2) vs_nil)) ?_ (fun i σ' H' => ∃ (v1 v2 v3 v4 v5 v6 v7 : Option V) (ff rest : List Int), σ' = [some (.ref a), some (.ref b), some (.int s), some (.int n), some (.int c), some (.ref l), v1, v2, v3, v4, v5, v6, v7] ∧ H' = upd H l (.lst (ff.map V.int)) ∧ LSt ps gs (W ps - c - 1) n s ff rest ∧ ff.length = i + 1)
      ⟨none, none, none, none, none, none, none, [s], ahead gs s, rfl, rfl, ls_start g hs, rfl⟩ ?_ ?_
    · omega
    · rintro i σ' H' hi ⟨v1, v2, v3, v4, v5, v6, v7, ff, rest, rfl, rfl, S, hl⟩
      have el : atI (ff.map V.int) (-1) = some (.int (lastD s ff)) := last_ints s S.ne
      have hd := S.last
      have id := g.inn hd
      have is := g.inn hs
      have hla : SqL K (upd H l (.lst (ff.map V.int))) a ((sums ps).map V.int) := SqL.of (hA _)
      have hll : SqL K (upd H l (.lst (ff.map V.int))) l (ff.map V.int) := SqL.of upd_same
      have sb := sv_back (nd_lst nd) (hA (ff.map V.int)) g.pos id is
      have lin := S.line
      have hnf : (ff.length : Int) < n := by omega
      have more := fun m => ls_more (m := m) S hnf
      have stop := ls_stop S
      generalize lastD s ff = d at el hd id sb lin more stop
      refine w_asg (va_op (va_var rfl) (va_op (va_var rfl) (va_un va_c ru_neg) (rv_ixL hll el)) (rv_ixL hla (at_sums id.1 (Int.le_of_lt id.2)))) ?_
      refine w_asg (va_cb (vs_cons (va_call (vs_cons (va_var rfl) (vs_cons (va_op (va_var rfl) (va_un va_c ru_neg) (rv_ixL hll el)) (vs_cons (va_var rfl) vs_nil))) sb) (vs_cons (va_op (va_op (va_var rfl) (va_un va_c ru_neg) (rv_ixL hla sums_last)) (va_var rfl) rv_I0) vs_nil)) rc_min2) ?_
      refine w_asg va_c ?_
      refine w_asg (va_op (va_var rfl) (va_un va_c ru_neg) (rv_ixL hll el)) ?_
      refine w_forL (va_var rfl) (SqL.of (hB _)) (fun j σ' H' => ∃ (reach best : Int) (w1 w2 : Option V), σ' = [some (.ref a), some (.ref b), some (.int s), some (.int n), some (.int c), some (.ref l), some (.int (1 + (i : Int))), some (.int (Fw.S ps d)), some (.int (min (way ps d s) (W ps - c))), some (.int reach), some (.int best), w1, w2] ∧ H' = upd H l (.lst (ff.map V.int)) ∧ Pick ps gs d (min (way ps d s) (W ps - c)) (gs.take j) reach best)
        ⟨0, d, v6, v7, rfl, rfl, by rw [List.take_zero]; exact pick_start ps gs d _⟩ (fun j σ' H' _ ⟨_, _, _, _, _, e, _⟩ => by rw [e]; exact SqL.of (hB _)) ?_ ?_
      · rintro j x σ' H' hx ⟨reach, best, w1, w2, rfl, rfl, p⟩
        rw [List.getElem?_map] at hx
        cases hy : gs[j]? with
        | none => rw [hy] at hx; cases hx
        | some y =>
          rw [hy] at hx
          cases hx
          have hyg := List.mem_of_getElem? hy
          have iy := g.inn hyg
          refine w_asg (va_is (va_op (va_cb (vs_cons (va_op (va_op (va_var rfl) (va_var rfl) (rv_ixL hla (at_sums iy.1 (Int.le_of_lt iy.2)))) (va_var rfl) rv_I0) vs_nil) rc_int1) (va_op (va_var rfl) (va_un va_c ru_neg) (rv_ixL hla sums_last)) (rv_I hw)) (congrArg V.int (far_mod g.pos id iy))) ?_
          have tk : gs.take (j + 1) = gs.take j ++ [y] := by rw [List.take_add_one, hy]; rfl
          refine e_when (an_and (an_test (va_op (va_var rfl) (va_var rfl) rv_I0)) (fun _ => an_test (va_op (va_var rfl) (va_var rfl) rv_I0))) (fun b => ?_) (fun b => ?_)
          · rw [Bool.and_eq_true, decide_eq_true_eq, decide_eq_true_eq] at b
            refine w_asg (va_var rfl) ?_
            refine e_asg (va_var rfl) ?_
            exact ⟨_, _, _, _, rfl, rfl, by rw [tk]; exact pick_take p hyg b.1 b.2⟩
          · have hno : ¬ (reach < far ps d y ∧ far ps d y < min (way ps d s) (W ps - c)) := fun z => by
              rw [decide_eq_true z.1, decide_eq_true z.2] at b
              cases b
            exact ⟨_, _, _, _, rfl, rfl, by rw [tk]; exact pick_pass p hno⟩
      · rintro σ' H' ⟨reach, best, w1, w2, rfl, rfl, p⟩
        rw [List.length_map, List.take_length] at p
        refine w_when (an_test (va_op (va_var rfl) va_c rv_eqI)) (fun b => ?_) (fun b => ?_)
        · have b := of_decide_eq_true b
          subst b
          exact w_ret (va_var rfl) (fin ff (stop (pick_none g hs hd lin p)))
        · have b := of_decide_eq_false b
          have hbg : best ∈ gs := by
            rcases p.got with z | z
            · exact absurd z b
            · exact z.1
          have S2 := more best (pick_some g hs hd lin p b)
          have hlf : ff.length ≤ gs.length := by have := S.len; omega
          refine e_app upd_same (va_var rfl) (va_var rfl) (by rw [List.length_map]; omega) ?_
          refine ⟨_, _, _, _, _, _, _, ff ++ [best], _, rfl, ?_, S2, by rw [List.length_append, hl]; rfl⟩
          rw [upd_upd, List.map_append]
          rfl
    · rintro σ' H' ⟨v1, v2, v3, v4, v5, v6, v7, ff, rest, rfl, rfl, S, hl⟩
      refine w_ret (va_var rfl) (fin ff (ls_full S ?_))
      omega
end
end Fp

/-! ## E3 -/
set_option Elab.async false
set_option linter.all false
set_option maxRecDepth 100000
set_option maxHeartbeats 4000000
namespace Fp
open PySem L2 Fv
open Evl (Ex Ex.refl Ex.trans Ex.new fresh_back ex_rd ex_l ex_t)
open Fw
local macro_rules | `(tactic| walk_at "va") => `(tactic| first
  | with_reducible exact va_c
  | ((with_reducible apply va_var); exact rfl)
  | with_reducible exact vs_nil
  | ((with_reducible apply vs_cons) <;> walk_at "va")
  | ((with_reducible apply va_op) <;> walk_at "va")
  | ((with_reducible apply va_un) <;> walk_at "va")
  | ((with_reducible apply va_cb) <;> walk_at "va")
  | ((with_reducible apply va_call) <;> walk_at "va")
  | ((with_reducible apply an_test) <;> walk_at "va")
  | ((with_reducible apply an_B) <;> walk_at "va")
  | ((with_reducible apply an_not) <;> walk_at "va")
  | ((with_reducible apply va_chain) <;> walk_at "va")
  | ((with_reducible apply mk_lst) <;> first | walk_at "va" | (show _ ≤ 100000; decide))
  | ((with_reducible apply mk_tup) <;> first | walk_at "va" | (show _ ≤ 100000; decide))
  | ((with_reducible apply mk_cb) <;> walk_at "va")
  | ((with_reducible apply mk_call) <;> walk_at "va")
  | with_reducible exact rv_I0
  | with_reducible exact rv_eqI
  | with_reducible exact rv_neI
  | with_reducible exact ru_neg
  | with_reducible exact rc_int1
  | with_reducible exact rc_abs
  | with_reducible exact rc_max2
  | with_reducible exact rc_min2
  | ((with_reducible apply rc_sum); assumption)
  | ((with_reducible apply rc_lenLI); assumption)
  | ((with_reducible apply rc_lenTI); assumption)
  | ((with_reducible apply rc_lenL); assumption)
  | ((with_reducible apply rc_lenT); assumption)
  | ((with_reducible apply rv_ixL) <;> assumption)
  | ((with_reducible apply rv_ixT) <;> assumption)
  | ((with_reducible apply rv_ixSL) <;> assumption)
  | ((with_reducible apply rv_ixST) <;> assumption)
  | ((with_reducible apply rv_inL); assumption)
  | ((with_reducible apply rv_inT); assumption)
  | ((with_reducible apply rv_ninL); assumption)
  | ((with_reducible apply rv_ninT); assumption)
  | ((with_reducible apply rn_listL); assumption)
  | ((with_reducible apply rn_listT); assumption)
  | ((with_reducible apply rn_tupleL); assumption)
  | assumption)
/-! ### what is drawn, the ring that is made of it -/
theorem cdivP {i j : Int} (h : 0 < j) (h2 : j < 1073741824) : CDiv i j := ⟨h, h2⟩
def Nw (H H' : Hp) : Prop := Ex H H' ∧ Clo H H'
theorem Nw.refl (H : Hp) : Nw H H := ⟨Ex.refl H, Clo.refl H⟩
theorem Nw.trans {H H1 H2 : Hp} (a : Nw H H1) (b : Nw H1 H2) : Nw H H2 := ⟨a.1.trans b.1, clo_trans a.1 b.1 a.2 b.2⟩
theorem Nw.new {H : Hp} {p : Addr} {o : HO} (h : H p = none) (po : Pl o) : Nw H (upd H p o) := ⟨Ex.new h, Clo.new po⟩
theorem Nw.add {H H' : Hp} {p : Addr} {o : HO} (n : Nw H H') (h : H' p = none) (po : Pl o) : Nw H (upd H' p o) := n.trans (Nw.new h po)
theorem Nw.lst {H H' : Hp} {p : Addr} {xs : List V} (n : Nw H H') (h : H' p = none) : Nw H (upd H' p (.lst xs)) := n.add h True.intro
theorem Nw.nd {H H' : Hp} (n : Nw H H') (h : ND H) : ND H' := nd_clo h n.1 n.2
theorem Nw.set {H H' : Hp} {p : Addr} {xs ys : List V} (n : Nw H H') (h0 : H p = none) (h1 : H' p = some (.lst xs)) : Nw H (upd H' p (.lst ys)) := by
  refine ⟨fun a o h => ?_, fun a o h h2 => ?_⟩
  · have : a ≠ p := fun e => by rw [e, h0] at h; cases h
    rw [upd_ne this]
    exact n.1 a o h
  · by_cases e : a = p
    · rw [e, upd_same] at h2
      cases h2
      exact .inl True.intro
    · rw [upd_ne e] at h2
      rcases n.2 a o h h2 with z | ⟨C, dx, fs, z1, z2⟩
      · exact .inl z
      · refine .inr ⟨C, dx, fs, z1, ?_⟩
        rw [upd_ne (ne_of z2 h1 (by intro e; cases e))]
        exact z2
theorem rt_nw {H H2 : Hp} {Q : VK} {v : V} (n : Nw H H2) (q : Q v H2) : Rt H Q v H2 := rt_any n.1 n.2 q
section
variable {K : PySem.W.Frag} {σ : L2.St} {H : Hp} {t : TT} {tu tw tz : TS} {D : Ends} {b : Bool} {i : Nat} {v : V}
theorem r_nm (h : tz D (σ.set i (some v)) H) : gName i v σ H (Ends.nx { D with nx := tz D }) := h
theorem w_whenC (N : L2.St → Hp → Prop) (h : Ans t σ H b) (h1 : b = true → (∀ σ' H', N σ' H' → tz D σ' H') → tu { D with nx := tz D } σ H) (h2 : b = false → N σ H) (k : ∀ σ' H', N σ' H' → tz D σ' H') : tSeq (tIfS t tu tNext) tz D σ H := w_when h (fun e => h1 e k) (fun e => k _ _ (h2 e))
theorem mk_lstRg {te : TE} {n : Nat} (h : Val te σ H (.int (n : Int))) (hn : n ≤ 100000) : Mkn (tLstRg (tRg1 te)) σ H (.lst (rgV 0 (n : Int))) := fun Q q => h _ ⟨n, rfl, RgOk.of_le (by omega) (by omega) (by omega) (by omega), q⟩
end
theorem rep_one (v : V) : ∀ n : Nat, (List.replicate n [v]).flatten = List.replicate n v
  | 0 => rfl
  | n + 1 => by
    rw [List.replicate_succ, List.flatten_cons, rep_one v n]
    rfl
section
variable {σ : L2.St} {H : Hp} {te tn : TE} {D : Ends} {tz : TS} {i n : Nat} {v : V}
theorem e_rep (h : Val te σ H v) (hn : ∀ l, H l = none → Val tn σ (upd H l (.lst [v])) (.int (n : Int))) (hz : n ≤ 100000) (k : ∀ p l, H l = none → upd H l (.lst [v]) p = none → D.nx (σ.set i (some (.ref p))) (upd (upd H l (.lst [v])) p (.lst (List.replicate n v)))) : tAsg (tOp rRep (tLst (tCons te tNil)) tn) (gName i) D σ H := by
  refine r_asg (r_op ?_)
  refine (mk_lst (vs_cons h vs_nil) (by show 1 ≤ 100000; decide)).go fun l nl => ?_
  refine (hn l nl).go ?_
  refine ⟨l, (n : Int), [v], rfl, rfl, upd_same, by omega, by omega, ?_, fun p np => ?_⟩
  · show 1 * (n : Int).toNat ≤ _
    have : 1 * (n : Int).toNat ≤ 100000 := by omega
    exact Nat.le_trans this (by decide)
  · rw [rep_one, Int.toNat_natCast]
    exact k p l nl np
theorem w_rep (h : Val te σ H v) (hn : ∀ l, H l = none → Val tn σ (upd H l (.lst [v])) (.int (n : Int))) (hz : n ≤ 100000) (k : ∀ p l, H l = none → upd H l (.lst [v]) p = none → tz D (σ.set i (some (.ref p))) (upd (upd H l (.lst [v])) p (.lst (List.replicate n v)))) : tSeq (tAsg (tOp rRep (tLst (tCons te tNil)) tn) (gName i)) tz D σ H := e_rep (D := { D with nx := tz D }) h hn hz k
end
def Dra (H : Hp) (d : Addr) (ps gs : List Int) : Prop := ∃ a b, H d = some (.tup [.ref a, .ref b]) ∧ H a = some (.lst (ps.map V.int)) ∧ H b = some (.lst (gs.map V.int))
theorem Dra.ex {H H' : Hp} {d : Addr} {ps gs : List Int} (e : Ex H H') (h : Dra H d ps gs) : Dra H' d ps gs := by
  obtain ⟨a, b, h1, h2, h3⟩ := h
  exact ⟨a, b, e _ _ h1, e _ _ h2, e _ _ h3⟩
def spDrawn : Sp := fun vs H Q _ => ND H ∧ ∃ (c : Int) (m g : Nat), vs = [.int c, .int (m : Int), .int (g : Int)] ∧ (1 ≤ m ∧ m ≤ 60) ∧ (1 ≤ g ∧ g ≤ 60) ∧
  ∀ (d : Addr) (H2 : Hp) (ps gs : List Int), Nw H H2 → Dra H2 d ps gs → Good ps gs → ps.length ≤ m → gs.length ≤ g → Q (.ref d) H2
def spMade (C : Addr) : Sp := fun vs H Q _ => ND H ∧ ∃ d k ps gs, vs = [.ref d, .int k] ∧ Dra H d ps gs ∧ Good ps gs ∧ ps.length ≤ 10000 ∧ ∀ r H2, Nw H H2 → RingAt C H2 r ps gs → Q (.ref r) H2
theorem nodup_lt {l : List Int} (h : l.Nodup) (k : l.Pairwise (· ≤ ·)) : l.Pairwise (· < ·) := by
  refine List.Pairwise.imp₂ (fun {a b} h1 h2 => ?_) k h
  have : a ≠ b := h2
  omega
theorem rg_ints (n : Nat) : rgV 0 (n : Int) = ((List.range n).map fun k : Nat => (k : Int)).map V.int := by
  unfold rgV
  rw [List.map_map, show ((n : Int) - 0).toNat = n by omega]
  refine List.map_congr_left fun k _ => ?_
  show V.int (0 + (k : Int)) = V.int (k : Int)
  rw [Int.zero_add]
section
variable {P : Program} {w : World} {K : PySem.W.Frag} {mg : Str → Option Value} {base : Heap} {C f : Addr} {fd : FuncData}
theorem ok_L_drawn (T : Txt K mg C) (F : Fun K "_law_drawn" "_law_drawn" s_L_drawn f fd) (c_L_digits : C8.Cal P w K mg base 1 "_law_digits" spDigits []) (c_L_price : C8.Cal P w K mg base 1 "_law_price" spPrice []) : FnOk P w K mg base CX0 2 f fd ["_law_cell_here", "_law_most", "_law_many"] spDrawn := by
  refine okF F sc_L_drawn (fun vs H Q E h => h.1) (fun vs H Q E h => ?_) (fun cdv A outer s0 H vs Q E hr h => ?_)
  · obtain ⟨_, c, m, gn, rfl, _⟩ := h
    rfl
  · obtain ⟨nd, c, m, gn, rfl, hm, hg, q⟩ := h
    refine ⟨_, (pss_cons (ps_set (i := 3) sc_L_drawn.nd rfl (Or.inr rfl) (C8.pe_c c_L_digits hr (by decide) (by rfl) (pa_cons (pv 0) (pa_cons pe_int (pa_cons pe_int pa_nil)))))
      (pss_cons (ps_set (i := 4) sc_L_drawn.nd rfl (Or.inl rfl) (pe_op op_add pe_int (pe_op op_mod (pe_callTy call_int1 (by rfl) T.int bt_int (pa_cons (pe_ix (show IxR _ (rIxL K) from ix_list) (pv 3) pe_int (fun _ _ => rfl)) pa_nil)) (pv 1))))
      (pss_cons (ps_setLc (own := [("_law_k", 6)]) (g := gName 6) (tt := tYes) (i := 5) rfl sc_L_drawn.nd rfl rfl (sw_true rfl rfl rfl (by decide +kernel)) (pi_range1 (by rfl) T.range (pa_cons (pv 4) pa_nil)) (blkOk_by (N := ["_law_cell_here", "_law_most", "_law_many", "_law_row", "_law_size", "_law_prices", "_law_k", "_law_gates", "_law_place"]) (sc := defScope s_L_drawn) (by decide +kernel)) (fun _ _ _ _ _ => pg_name (i := 6) sc_L_drawn.nd rfl (Or.inl rfl)) (fun _ _ _ _ _ => pts_nil) (fun _ _ _ _ _ => (C8.pe_c c_L_price hr (by decide) (by rfl) (pa_cons (pe_ix (show IxR _ (rIxL K) from ix_list) (pv 3) (pe_op op_add pe_int (pv 6)) (fun _ _ => rfl)) pa_nil))))
      (pss_cons (ps_if (pt_cmpR op_eq (pe_op op_mod (pe_callTy call_int1 (by rfl) T.int bt_int (pa_cons (pe_ix (show IxR _ (rIxL K) from ix_list) (pv 3) pe_int (fun _ _ => rfl)) pa_nil)) pe_int) pe_int (nomark _)) (pss_one (ps_set (i := 5) sc_L_drawn.nd rfl (Or.inl rfl) (pe_op op_rep (pe_lst (pa_cons (pe_op op_add pe_int (pe_op op_mod (pe_callTy call_int1 (by rfl) T.int bt_int (pa_cons (pe_op op_fdiv (pe_ix (show IxR _ (rIxL K) from ix_list) (pv 3) pe_int (fun _ _ => rfl)) pe_int) pa_nil)) pe_int)) pa_nil)) (pv 4)))) pss_nil)
      (pss_cons (ps_set (i := 7) sc_L_drawn.nd rfl (Or.inl rfl) (pe_lst pa_nil))
      (pss_cons (ps_for PassesOwn.never rfl (pi_range1 (by rfl) T.range (pa_cons (pe_op op_add pe_int (pe_op op_mod (pe_callTy call_int1 (by rfl) T.int bt_int (pa_cons (pe_ix (show IxR _ (rIxL K) from ix_list) (pv 3) pe_int (fun _ _ => rfl)) pa_nil)) (pv 2))) pa_nil)) (pg_name (i := 6) sc_L_drawn.nd rfl (Or.inl rfl)) (pss_cons (ps_set (i := 8) sc_L_drawn.nd rfl (Or.inl rfl) (pe_op op_mod (pe_callTy call_int1 (by rfl) T.int bt_int (pa_cons (pe_ix (show IxR _ (rIxL K) from ix_list) (pv 3) (pe_op op_sub pe_int (pv 6)) (fun _ _ => rfl)) pa_nil)) (pv 4)))
        (pss_one (ps_if (pt_cmpR op_notIn_seq (pv 8) (pv 7) (by rfl)) (pss_one (ps_expr (pe_bm PySem.F.plainAttrs_list PySem.F.slot_list_append PySem.F.type_list_append mt_append (pv 7) (pa_cons (pv 8) pa_nil)))) pss_nil))))
      (pss_cons (ps_if (pt_cmpR op_eq (pe_op op_mod (pe_callTy call_int1 (by rfl) T.int bt_int (pa_cons (pe_ix (show IxR _ (rIxL K) from ix_list) (pv 3) pe_int (fun _ _ => rfl)) pa_nil)) pe_int) pe_int (nomark _)) (pss_one (ps_set (i := 7) sc_L_drawn.nd rfl (Or.inl rfl) (pe_listRg rfl (by rfl) T.list (prg_1 (by rfl) T.range (pe_callB (call_min2 rfl) (by rfl) T.min bt_min (pa_cons (pv 4) (pa_cons (pv 2) pa_nil))))))) pss_nil)
      (pss_one (ps_ret (pe_tup (pa_cons (pv 5) (pa_cons (pe_callB cr_sortedI (by rfl) T.sorted bt_sorted (pa_cons (pv 7) pa_nil)) pa_nil)))))))))))), ?_⟩
    refine r_seq (r_asg (r_call ((vs_cons (va_var rfl) (vs_cons va_c (vs_cons va_c vs_nil))).go ?_)))
    refine ⟨nd, c, 55440, 64, rfl, by decide, ⟨by decide, by decide⟩, fun row ds nrow hl hd => ?_⟩
    refine r_nm ?_
    have get : ∀ k, k < 64 → ∃ z, ds[k]? = some z := fun k hk => ints_at hl hk
    have n1 : Nw H (upd H row (.lst (ds.map V.int))) := (Nw.refl H).lst nrow
    have hrow : (upd H row (.lst (ds.map V.int))) row = some (.lst (ds.map V.int)) := upd_same
    generalize (upd H row (.lst (ds.map V.int))) = H1 at n1 hrow
    have at_ : ∀ {H' : Hp} {z : Int} (k : Nat), ds[k]? = some z → H' row = some (.lst (ds.map V.int)) → RV (rIxL K) (.ref row) (.int (k : Int)) H' (.int z) := fun k hz h => rv_ixL (SqL.of h) (at_int hz)
    obtain ⟨z0, hz0⟩ := get 0 (by decide)
    obtain ⟨z1, hz1⟩ := get 1 (by decide)
    obtain ⟨z2, hz2⟩ := get 2 (by decide)
    obtain ⟨z3, hz3⟩ := get 3 (by decide)
    have m0 := emod_range (a := z0) (b := (m : Int)) (by omega)
    obtain ⟨n, hn⟩ : ∃ n : Nat, 1 + z0 % (m : Int) = (n : Int) := ⟨(1 + z0 % (m : Int)).toNat, by omega⟩
    refine w_asg (va_is (va_op va_c (va_op (va_cb (vs_cons (va_op (va_var rfl) va_c (at_ 0 hz0 hrow)) vs_nil) rc_int1) (va_var rfl) (rv_I (show (0 : Int) < (m : Int) by omega))) rv_I0) (congrArg V.int hn)) ?_
    have hn1 : 1 ≤ n ∧ n ≤ m := by omega
    refine w_asgN (mk_lcR (n := n) (fun k => V.int (priceOf (ds.getD (4 + k) 0))) (vs_cons (va_var rfl) vs_nil) (by omega) (fun _ => rfl) (fun i D ys hD hi => ?_)) (fun pr npr => ?_)
    · obtain ⟨z, hz⟩ := get (4 + i) (by omega)
      have e : ds.getD (4 + i) 0 = z := by rw [List.getD_eq_getElem?_getD, hz]; rfl
      rw [e]
      exact va_call (vs_cons (va_op (va_var rfl) (va_is (va_op va_c (va_var rfl) rv_I0) (congrArg V.int (show (4 : Int) + (i : Int) = ((4 + i : Nat) : Int) by omega))) (at_ (4 + i) hz (Ex.new hD _ _ hrow))) vs_nil) (fun Q E k => ⟨nd_lst (n1.nd nd), z, rfl, k⟩)
    have ep : (List.range n).map (fun k => V.int (priceOf (ds.getD (4 + k) 0))) = ((List.range n).map fun k => priceOf (ds.getD (4 + k) 0)).map V.int := by
      rw [List.map_map]
      rfl
    rw [ep]
    have n2 := n1.lst (xs := ((List.range n).map fun k => priceOf (ds.getD (4 + k) 0)).map V.int) npr
    have hrow2 := Ex.new (o := .lst (((List.range n).map fun k => priceOf (ds.getD (4 + k) 0)).map V.int)) npr _ _ hrow
    refine w_whenC (fun σ' H' => ∃ (pr : Addr) (ps : List Int), σ' = [some (.int c), some (.int (m : Int)), some (.int (gn : Int)), some (.ref row), some (.int (n : Int)), some (.ref pr), none, none, none] ∧ Nw H H' ∧ H' row = some (.lst (ds.map V.int)) ∧ H' pr = some (.lst (ps.map V.int)) ∧ Pos ps ∧ ps.length = n)
      (an_test (va_op (va_op (va_cb (vs_cons (va_op (va_var rfl) va_c (at_ 1 hz1 hrow2)) vs_nil) rc_int1) va_c (rv_I (show (0 : Int) < 4 by decide))) va_c rv_eqI)) (fun _ k => ?_) (fun _ => ?_) ?_
    · have m1 := emod_range (a := z1 / 4) (b := 9) (by decide)
      refine e_rep (va_op va_c (va_op (va_cb (vs_cons (va_op (va_op (va_var rfl) va_c (at_ 1 hz1 hrow2)) va_c (rv_I (cdivP (by decide) (by decide)))) vs_nil) rc_int1) va_c (rv_I (show (0 : Int) < 9 by decide))) rv_I0) (fun _ _ => va_var rfl) (by omega) (fun p l nl np => ?_)
      · have el : List.replicate n (V.int (1 + z1 / 4 % 9)) = (List.replicate n (1 + z1 / 4 % 9)).map V.int := by
          rw [List.map_replicate]
        rw [el]
        refine k _ _ ⟨p, List.replicate n (1 + z1 / 4 % 9), rfl, (n2.lst nl).lst np, ?_, upd_same, fun x hx => ?_, List.length_replicate⟩
        · exact Ex.new np _ _ (Ex.new nl _ _ hrow2)
        · rw [List.eq_of_mem_replicate hx]
          omega
    · refine ⟨pr, _, rfl, n2, hrow2, upd_same, fun x hx => ?_, by rw [List.length_map, List.length_range]⟩
      obtain ⟨k, _, rfl⟩ := List.mem_map.mp hx
      exact price_pos _
    rintro σ' H2 ⟨pr, ps, rfl, n2, hrow2, hpr, hpos, hpl⟩
    refine w_asgN (mk_lst vs_nil (by show 0 ≤ 100000; decide)) (fun l nl => ?_)
    have nrl : row ≠ l := ne_of_none hrow2 nl
    have npl : pr ≠ l := ne_of_none hpr nl
    have hl0 : H l = none := fresh_back n2.1 nl
    have m2 := emod_range (a := z2) (b := (gn : Int)) (by omega)
    obtain ⟨cn, hcn⟩ : ∃ cn : Nat, 1 + z2 % (gn : Int) = (cn : Int) := ⟨(1 + z2 % (gn : Int)).toNat, by omega⟩
    have hr3 : ∀ xs, (upd H2 l (.lst xs)) row = some (.lst (ds.map V.int)) := fun xs => by rw [upd_ne nrl]; exact hrow2
    refine w_forR (n := cn) (vs_cons (va_is (va_op va_c (va_op (va_cb (vs_cons (va_op (va_var rfl) va_c (at_ 2 hz2 (hr3 _))) vs_nil) rc_int1) (va_var rfl) (rv_I (show (0 : Int) < (gn : Int) by omega))) rv_I0) (congrArg V.int hcn)) vs_nil) (by omega)
      (fun i σ' H' => ∃ (v1 v2 : Option V) (xs : List Int), σ' = [some (.int c), some (.int (m : Int)), some (.int (gn : Int)), some (.ref row), some (.int (n : Int)), some (.ref pr), v1, some (.ref l), v2] ∧ H' = upd H2 l (.lst (xs.map V.int)) ∧ xs.Nodup ∧ (∀ x ∈ xs, 0 ≤ x ∧ x < (n : Int)) ∧ xs.length ≤ i ∧ (1 ≤ i → xs ≠ []))
      ⟨none, none, [], rfl, rfl, List.nodup_nil, (fun x hx => nomatch hx), Nat.le_refl _, fun z => absurd z (by decide)⟩ ?_ ?_
    · rintro i σ' H' hi ⟨v1, v2, xs, rfl, rfl, hnd, hin, hlen, hne⟩
      obtain ⟨z, hz⟩ := get (63 - i) (by omega)
      have mz := emod_range (a := z) (b := (n : Int)) (by omega)
      refine w_asg (va_op (va_cb (vs_cons (va_op (va_var rfl) (va_is (va_op va_c (va_var rfl) rv_I0) (congrArg V.int (show (63 : Int) - (i : Int) = ((63 - i : Nat) : Int) by omega))) (at_ (63 - i) hz (hr3 _))) vs_nil) rc_int1) (va_var rfl) (rv_I (show (0 : Int) < (n : Int) by omega))) ?_
      generalize z % (n : Int) = x at mz
      refine e_when (an_test (va_op (va_var rfl) (va_var rfl) (rv_ninL (SqL.of upd_same)))) (fun b => ?_) (fun b => ?_)
      · have b : x ∉ xs := by simpa using b
        refine e_app upd_same (va_var rfl) (va_var rfl) (by rw [List.length_map]; omega) ?_
        refine ⟨_, _, xs ++ [x], rfl, by rw [upd_upd, List.map_append]; rfl, ?_, fun y hy => ?_, by rw [List.length_append, List.length_singleton]; omega, fun _ => by simp⟩
        · rw [List.nodup_append]
          refine ⟨hnd, by simp, fun a ha b' hb => ?_⟩
          rw [List.mem_singleton.mp hb]
          exact fun e => b (e ▸ ha)
        · rcases List.mem_append.mp hy with h | h
          · exact hin y h
          · rw [List.mem_singleton.mp h]
            exact mz
      · have b : x ∈ xs := by simpa using b
        exact ⟨_, _, xs, rfl, rfl, hnd, hin, by omega, fun _ e => by rw [e] at b; cases b⟩
    · rintro σ' H' ⟨v1, v2, xs, rfl, rfl, hnd, hin, hlen, hne⟩
      have hpr3 : (upd H2 l (.lst (xs.map V.int))) pr = some (.lst (ps.map V.int)) := by rw [upd_ne npl]; exact hpr
      have n3 : Nw H (upd H2 l (.lst (xs.map V.int))) := n2.lst nl
      refine w_whenC (fun σ' H' => ∃ (gt : Addr) (v1 v2 : Option V) (xs : List Int), σ' = [some (.int c), some (.int (m : Int)), some (.int (gn : Int)), some (.ref row), some (.int (n : Int)), some (.ref pr), v1, some (.ref gt), v2] ∧ Nw H H' ∧ H' gt = some (.lst (xs.map V.int)) ∧ H' pr = some (.lst (ps.map V.int)) ∧ xs.Nodup ∧ (∀ x ∈ xs, 0 ≤ x ∧ x < (n : Int)) ∧ xs.length ≤ gn ∧ xs ≠ [])
        (an_test (va_op (va_op (va_cb (vs_cons (va_op (va_var rfl) va_c (at_ 3 hz3 (hr3 _))) vs_nil) rc_int1) va_c (rv_I (show (0 : Int) < 5 by decide))) va_c rv_eqI)) (fun _ k => ?_) (fun _ => ?_) ?_
      · obtain ⟨mn, hmn⟩ : ∃ mn : Nat, min (n : Int) (gn : Int) = (mn : Int) := ⟨(min (n : Int) (gn : Int)).toNat, by omega⟩
        refine e_asgN (mk_lstRg (va_is (va_cb (vs_cons (va_var rfl) (vs_cons (va_var rfl) vs_nil)) rc_min2) (congrArg V.int hmn)) (by omega)) (fun p np => ?_)
        rw [rg_ints]
        refine k _ _ ⟨p, _, _, (List.range mn).map fun k : Nat => (k : Int), rfl, n3.lst np, upd_same, Ex.new np _ _ hpr3, ?_, fun x hx => ?_, by rw [List.length_map, List.length_range]; omega, fun e => ?_⟩
        · exact List.Pairwise.map _ (fun a b (h : a ≠ b) => by intro e; exact h (by omega)) (List.nodup_range (n := mn))
        · obtain ⟨k', hk', rfl⟩ := List.mem_map.mp hx
          have := List.mem_range.mp hk'
          omega
        · have := congrArg List.length e
          rw [List.length_map, List.length_range] at this
          have : mn = 0 := this
          omega
      · exact ⟨l, _, _, xs, rfl, n3, upd_same, hpr3, hnd, hin, by omega, hne (by omega)⟩
      rintro σ' H4 ⟨gt, v1, v2, xs, rfl, n4, hgt, hpr4, hnd, hin, hlen, hne⟩
      refine r_ret (r_tup (r_cons ((va_var rfl).go (r_cons (r_cb (r_cons ((va_var rfl).go (r_nil ⟨gt, xs, rfl, SqL.of hgt, fun gs p pm asc np => r_nil ⟨(by show 2 ≤ sizeLine; decide), fun d nd' => ?_⟩⟩))))))))
      have mem : ∀ x, x ∈ gs ↔ x ∈ xs := fun x => pm.mem_iff
      refine rt_nw ((n4.lst np).add nd' True.intro) (q d _ ps gs ((n4.lst np).add nd' True.intro) ⟨pr, p, upd_same, Ex.new nd' _ _ (Ex.new np _ _ hpr4), Ex.new nd' _ _ upd_same⟩ ⟨hpos, fun e => ?_, nodup_lt (pm.nodup_iff.mpr hnd) asc, fun x hx => (hin x ((mem x).mp hx)).1, fun x hx => ?_⟩ (by omega) (by rw [pm.length_eq]; exact hlen))
      · have := pm.length_eq
        rw [e] at this
        exact hne (List.length_eq_zero_iff.mp this.symm)
      · rw [hpl]
        exact (hin x ((mem x).mp hx)).2
end
end Fp

/-! ## E4 -/
set_option Elab.async false
set_option linter.all false
set_option maxRecDepth 100000
set_option maxHeartbeats 4000000
namespace Fp
open PySem L2 Fv
open Evl (Ex Ex.refl Ex.trans Ex.new fresh_back ex_rd ex_l ex_t)
open Fw
local macro_rules | `(tactic| walk_at "va") => `(tactic| first
  | with_reducible exact va_c
  | ((with_reducible apply va_var); exact rfl)
  | with_reducible exact vs_nil
  | ((with_reducible apply vs_cons) <;> walk_at "va")
  | ((with_reducible apply va_op) <;> walk_at "va")
  | ((with_reducible apply va_un) <;> walk_at "va")
  | ((with_reducible apply va_cb) <;> walk_at "va")
  | ((with_reducible apply va_call) <;> walk_at "va")
  | ((with_reducible apply an_test) <;> walk_at "va")
  | ((with_reducible apply an_B) <;> walk_at "va")
  | ((with_reducible apply an_not) <;> walk_at "va")
  | ((with_reducible apply va_chain) <;> walk_at "va")
  | ((with_reducible apply mk_lst) <;> first | walk_at "va" | (show _ ≤ 100000; decide))
  | ((with_reducible apply mk_tup) <;> first | walk_at "va" | (show _ ≤ 100000; decide))
  | ((with_reducible apply mk_cb) <;> walk_at "va")
  | ((with_reducible apply mk_call) <;> walk_at "va")
  | with_reducible exact rv_I0
  | with_reducible exact rv_eqI
  | with_reducible exact rv_neI
  | with_reducible exact ru_neg
  | with_reducible exact rc_int1
  | with_reducible exact rc_abs
  | with_reducible exact rc_max2
  | with_reducible exact rc_min2
  | ((with_reducible apply rc_sum); assumption)
  | ((with_reducible apply rc_lenLI); assumption)
  | ((with_reducible apply rc_lenTI); assumption)
  | ((with_reducible apply rc_lenL); assumption)
  | ((with_reducible apply rc_lenT); assumption)
  | ((with_reducible apply rv_ixL) <;> assumption)
  | ((with_reducible apply rv_ixT) <;> assumption)
  | ((with_reducible apply rv_ixSL) <;> assumption)
  | ((with_reducible apply rv_ixST) <;> assumption)
  | ((with_reducible apply rv_inL); assumption)
  | ((with_reducible apply rv_inT); assumption)
  | ((with_reducible apply rv_ninL); assumption)
  | ((with_reducible apply rv_ninT); assumption)
  | ((with_reducible apply rn_listL); assumption)
  | ((with_reducible apply rn_listT); assumption)
  | ((with_reducible apply rn_tupleL); assumption)
  | assumption)
/-! ### the ring is made; certificates are copied and read -/
structure MakK (P : Program) (w : World) (K : PySem.W.Frag) (mg : Str → Option Value) (base : Heap) (k : Nat) (x : Str) (C : Addr) (sp : Sp) (f : Addr) (fd : FuncData) (ps ks : List Str) (n : Nat) : Prop where
  mkk : Mk K C f
  fn : FnOk P w K mg base CX0 k f fd ps sp
  mg : mg x = some (.ref C)
  bd : KBn K fd ps n ks (fun us ws => us ++ ws) (fun vs zs => vs ++ zs)
theorem made_nw {C x dx : Addr} {H H2 : Hp} {fs : List (Str × V)} (h1 : H x = none) (h2 : H dx = none) (ne : dx ≠ x) (k : Wk (upd (upd H dx (.own x)) x (.ins C dx [])) H2 x) (hx : H2 x = some (.ins C dx fs)) : Nw H H2 := by
  have hdx : H2 dx = some (.own x) := k.keep dx _ ne (by rw [upd_ne ne, upd_same])
  refine ⟨fun q o h => ?_, fun q o h h' => ?_⟩
  · have n1 : q ≠ x := fun e => by rw [e, h1] at h; cases h
    have n2 : q ≠ dx := fun e => by rw [e, h2] at h; cases h
    exact k.keep q o n1 (by rw [upd_ne n1, upd_ne n2]; exact h)
  · by_cases e : q = x
    · rw [e, hx] at h'
      cases h'
      exact .inr ⟨C, dx, fs, rfl, by rw [e]; exact hdx⟩
    · by_cases e2 : q = dx
      · rw [e2, hdx] at h'
        cases h'
        exact .inl True.intro
      · exact .inl (k.new q o (by rw [upd_ne e, upd_ne e2]; exact h) h')
def PapX (H : Hp) (p : Addr) (c : Int) (ds : List Int) (ls : List (List Int)) : Prop := ∃ xs, (H p = some (.lst xs) ∨ H p = some (.tup xs)) ∧ Pap (fun _ => True) H xs c ds ls
theorem PapT.x {N : Addr → Prop} {H : Hp} {p : Addr} {c : Int} {ds : List Int} {ls : List (List Int)} (h : PapT N H p c ds ls) : PapX H p c ds ls := by
  obtain ⟨_, xs, h1, h2⟩ := h
  exact ⟨xs, .inr h1, h2.imp fun _ _ => True.intro⟩
theorem PapL.x {N : Addr → Prop} {H : Hp} {p : Addr} {c : Int} {ds : List Int} {ls : List (List Int)} (h : PapL N H p c ds ls) : PapX H p c ds ls := by
  obtain ⟨_, xs, h1, h2⟩ := h
  exact ⟨xs, .inl h1, h2.imp fun _ _ => True.intro⟩
theorem PapX.ex {H H' : Hp} {p : Addr} {c : Int} {ds : List Int} {ls : List (List Int)} (e : Ex H H') (h : PapX H p c ds ls) : PapX H' p c ds ls := by
  obtain ⟨xs, h1, h2⟩ := h
  refine ⟨xs, ?_, h2.ex e⟩
  rcases h1 with h1 | h1
  · exact .inl (e _ _ h1)
  · exact .inr (e _ _ h1)
def spCopied : Sp := fun vs H Q _ => ND H ∧ ∃ p c ds ls, vs = [.ref p] ∧ PapX H p c ds ls ∧ ds.length ≤ 1000 ∧ ls.length ≤ 1000 ∧ ∀ q H2, Nw H H2 → PapL (fun a => H a = none) H2 q c ds ls → Q (.ref q) H2
def spIsPaper : Sp := fun vs H Q _ => ND H ∧ ∃ p c ds ls, vs = [.ref p] ∧ PapT (fun _ => True) H p c ds ls ∧ Q (.bl true) H
def spHolds : Sp := fun vs H Q _ => ND H ∧ ∃ d ps gs n p c ds ls, vs = [.ref d, .int n, .ref p] ∧ Dra H d ps gs ∧ Good ps gs ∧ ps.length ≤ 1000 ∧ gs.length ≤ 1000 ∧ 1 ≤ n ∧ PapX H p c ds ls ∧ ds.length ≤ 1000 ∧ ls.length ≤ 1000 ∧ ∀ b : Bool, (b = true ↔ Acc ps gs n c ds ls) → Q (.bl b) H
section
variable {K : PySem.W.Frag} {σ : L2.St} {H : Hp} {p : Addr} {xs : List V} {i : Int} {v : V}
theorem r_make {C : Addr} {sp : Sp} {dvs : List V} {E : XK} {t : TA} {Q : VK} (h : t σ H fun vs H1 => ∀ x dx, H1 x = none → H1 dx = none → dx ≠ x → sp (.ref x :: (vs ++ dvs)) (upd (upd H1 dx (.own x)) x (.ins C dx [])) (fun v H2 => v = .non ∧ Q (.ref x) H2) E) : tMake C sp dvs E t σ H Q := h
theorem r_makeK {C : Addr} {n m : Nat} {sp : Sp} {gV : List V → List V → List V} {E : XK} {t tk : TA} {Q : VK} (h : t σ H fun vs H1 => tk σ H1 fun zs H2 => vs.length = n ∧ zs.length = m ∧ ∀ x dx, H2 x = none → H2 dx = none → dx ≠ x → sp (gV (.ref x :: vs) zs) (upd (upd H2 dx (.own x)) x (.ins C dx [])) (fun v H3 => v = .non ∧ Q (.ref x) H3) E) : tMakeK C n m sp gV E t tk σ H Q := h
theorem rv_ixX (h : H p = some (.lst xs) ∨ H p = some (.tup xs)) (e : atI xs i = some v) : RV (rIx K) (.ref p) (.int i) H v := by
  rcases h with h | h
  · exact rv_ixSL (SqL.of h) e
  · exact rv_ixST (SqT.of h) e
end
section
variable {P : Program} {w : World} {K : PySem.W.Frag} {mg : Str → Option Value} {base : Heap} {C f : Addr} {fd : FuncData}
theorem ok_L_made {f2 : Addr} {fd2 : FuncData} (T : Txt K mg C) (F : Fun K "_law_made" "_law_made" s_L_made f fd) (c_R_init : C8.Mak P w K mg base 2 "Ring" C (spInit C) [.non]) (c_R_initK : MakK P w K mg base 2 "Ring" C (spInit C) f2 fd2 ["self", "prices", "doors", "nodes"] ["nodes"] 3) :
    FnOk P w K mg base CX0 4 f fd ["_law_drawn_here", "_law_digit"] (spMade C) := by
  refine okF F sc_L_made (fun vs H Q E h => h.1) (fun vs H Q E h => ?_) (fun cdv A outer s0 H vs Q E hr h => ?_)
  · obtain ⟨_, d, k, ps, gs, rfl, _⟩ := h
    rfl
  · obtain ⟨nd, d, k, ps, gs, rfl, ⟨a, b, hd, ha, hb⟩, g, hz, q⟩ := h
    refine ⟨_, (pss_cons (ps_if (pt_cmpR op_eq (pe_op op_mod (pe_callTy call_int1 (by rfl) T.int bt_int (pa_cons (pv 1) pa_nil)) pe_int) pe_int (nomark _)) (pss_one (ps_ret (C8.pe_mk c_R_init hr (by decide) (by rfl) (pa_cons (pe_callTy (show CallR _ _ (kList K) from call_list_of) (by rfl) T.list bt_list (pa_cons (pe_ix (show IxR _ (rIxT K) from ix_tup) (pv 0) pe_int (fun _ _ => rfl)) pa_nil)) (pa_cons (pe_callTy (show CallR _ _ (kList K) from call_list_of) (by rfl) T.list bt_list (pa_cons (pe_ix (show IxR _ (rIxT K) from ix_tup) (pv 0) pe_int (fun _ _ => rfl)) pa_nil)) pa_nil))))) pss_nil)
      (pss_one (ps_ret (pe_makeK c_R_initK.mkk c_R_initK.fn (hr.mono (by decide)) (by rfl) c_R_initK.mg c_R_initK.bd pass0 (pa_cons (pe_callTy (show CallR _ _ (kList K) from call_list_of) (by rfl) T.list bt_list (pa_cons (pe_ix (show IxR _ (rIxT K) from ix_tup) (pv 0) pe_int (fun _ _ => rfl)) pa_nil)) (pa_cons (pe_callTy (show CallR _ _ (kList K) from call_list_of) (by rfl) T.list bt_list (pa_cons (pe_ix (show IxR _ (rIxT K) from ix_tup) (pv 0) pe_int (fun _ _ => rfl)) pa_nil)) pa_nil)) (pk_cons (pe_lc (own := [("_law_k", 2)]) (g := gName 2) (tt := tYes) rfl sc_L_made.nd (pi_range1 (by rfl) T.range (pa_cons (pe_callB (show CallR _ _ (kLen K) from call_len_seq) (by rfl) T.len bt_len (pa_cons (pe_ix (show IxR _ (rIxT K) from ix_tup) (pv 0) pe_int (fun _ _ => rfl)) pa_nil)) pa_nil)) (blkOk_by (N := ["_law_drawn_here", "_law_digit", "_law_k"]) (sc := defScope s_L_made) (by decide +kernel)) (fun _ _ _ _ _ => pg_name (i := 2) sc_L_made.nd rfl (Or.inl rfl)) (fun _ _ _ _ _ => pts_nil) (fun _ _ _ _ _ => (pe_op op_sub (pe_op op_mul pe_int (pe_callB (show CallR _ _ (kLen K) from call_len_seq) (by rfl) T.len bt_len (pa_cons (pe_ix (show IxR _ (rIxT K) from ix_tup) (pv 0) pe_int (fun _ _ => rfl)) pa_nil))) (pe_op op_mul pe_int (pv 2))))) pk_nil))))), ?_⟩
    have sd : ∀ {H' : Hp}, Ex H H' → SqT K H' d [.ref a, .ref b] := fun e => SqT.of (e _ _ hd)
    refine w_when (an_test (va_op (va_op (va_cb (vs_cons (va_var rfl) vs_nil) rc_int1) va_c (rv_I (show (0 : Int) < 2 by decide))) va_c rv_eqI)) (fun _ => ?_) (fun _ => ?_)
    · refine r_ret ?_
      refine r_make ?_
      refine r_cons ?_
      refine (mk_cb (vs_cons (va_op (va_var rfl) va_c (rv_ixT (sd (Ex.refl H)) rfl)) vs_nil) (rn_listL (SqL.of ha))).go fun l1 n1 => ?_
      have e1 : Nw H (upd H l1 (.lst (ps.map V.int))) := (Nw.refl H).lst n1
      refine r_cons ?_
      refine (mk_cb (vs_cons (va_op (va_var rfl) va_c (rv_ixT (sd e1.1) rfl)) vs_nil) (rn_listL (SqL.of (e1.1 _ _ hb)))).go fun l2 n2 => ?_
      refine r_nil fun x dx hx hdx ne => ?_
      have e2 := e1.lst (xs := gs.map V.int) n2
      have h1 := Ex.new (o := .lst (gs.map V.int)) n2 l1 _ upd_same
      have h2 : (upd (upd H l1 (.lst (ps.map V.int))) l2 (.lst (gs.map V.int))) l2 = some (.lst (gs.map V.int)) := upd_same
      generalize (upd (upd H l1 (.lst (ps.map V.int))) l2 (.lst (gs.map V.int))) = H2 at hx hdx e2 h1 h2
      have hdx' : (upd H2 dx (.own x)) x = none := by rw [upd_ne (fun e => ne e.symm)]; exact hx
      have ex2 := (Ex.new (o := .own x) hdx).trans (Ex.new (o := .ins C dx []) hdx')
      refine ⟨nd_upd (nd_upd (e2.nd nd) True.intro) True.intro, x, dx, l1, l2, .non, ps, gs, rfl, upd_same, ex2 _ _ h1, ex2 _ _ h2, g, .inl rfl, hz, fun H3 wk R ⟨fs, hf⟩ => ⟨rfl, ?_⟩⟩
      have e3 := e2.trans (made_nw hx hdx ne wk hf)
      exact rt_nw e3 (q x H3 e3 R)
    · refine r_ret ?_
      refine r_makeK ?_
      refine r_cons ?_
      refine (mk_cb (vs_cons (va_op (va_var rfl) va_c (rv_ixT (sd (Ex.refl H)) rfl)) vs_nil) (rn_listL (SqL.of ha))).go fun l1 n1 => ?_
      have e1 : Nw H (upd H l1 (.lst (ps.map V.int))) := (Nw.refl H).lst n1
      refine r_cons ?_
      refine (mk_cb (vs_cons (va_op (va_var rfl) va_c (rv_ixT (sd e1.1) rfl)) vs_nil) (rn_listL (SqL.of (e1.1 _ _ hb)))).go fun l2 n2 => ?_
      refine r_nil ?_
      have e2 := e1.lst (xs := gs.map V.int) n2
      have h1 := Ex.new (o := .lst (gs.map V.int)) n2 l1 _ upd_same
      have h2 : (upd (upd H l1 (.lst (ps.map V.int))) l2 (.lst (gs.map V.int))) l2 = some (.lst (gs.map V.int)) := upd_same
      generalize (upd (upd H l1 (.lst (ps.map V.int))) l2 (.lst (gs.map V.int))) = H2 at e2 h1 h2
      have ha2 := e2.1 _ _ ha
      refine (mk_lcR (n := ps.length) (fun k => V.int (3 * (ps.length : Int) - 2 * (k : Int))) (vs_cons (va_cb (vs_cons (va_op (va_var rfl) va_c (rv_ixT (sd e2.1) rfl)) vs_nil) (rc_lenLI (SqL.of ha2))) vs_nil) (by omega) (fun _ => rfl) (fun i D ys hD hi => ?_)).go fun l3 n3 => ?_
      · exact va_op (va_op va_c (va_cb (vs_cons (va_op (va_var rfl) va_c (rv_ixT (sd (e2.1.trans (Ex.new hD))) rfl)) vs_nil) (rc_lenLI (SqL.of (Ex.new hD _ _ ha2)))) (rv_I (.inl (by decide)))) (va_op va_c (va_var rfl) (rv_I (.inl (by decide)))) rv_I0
      refine ⟨rfl, rfl, fun x dx hx hdx ne => ?_⟩
      have e3 := e2.lst (xs := (List.range ps.length).map fun k : Nat => V.int (3 * (ps.length : Int) - 2 * (k : Int))) n3
      have h1' := Ex.new (o := .lst ((List.range ps.length).map fun k : Nat => V.int (3 * (ps.length : Int) - 2 * (k : Int)))) n3 l1 _ h1
      have h2' := Ex.new (o := .lst ((List.range ps.length).map fun k : Nat => V.int (3 * (ps.length : Int) - 2 * (k : Int)))) n3 l2 _ h2
      have h3' : (upd H2 l3 (.lst ((List.range ps.length).map fun k : Nat => V.int (3 * (ps.length : Int) - 2 * (k : Int))))) l3 = some (.lst ((List.range ps.length).map fun k : Nat => V.int (3 * (ps.length : Int) - 2 * (k : Int)))) := upd_same
      generalize (upd H2 l3 (.lst ((List.range ps.length).map fun k : Nat => V.int (3 * (ps.length : Int) - 2 * (k : Int))))) = H3 at hx hdx e3 h1' h2' h3'
      have hdx' : (upd H3 dx (.own x)) x = none := by rw [upd_ne (fun e => ne e.symm)]; exact hx
      have ex2 := (Ex.new (o := .own x) hdx).trans (Ex.new (o := .ins C dx []) hdx')
      refine ⟨nd_upd (nd_upd (e3.nd nd) True.intro) True.intro, x, dx, l1, l2, .ref l3, ps, gs, rfl, upd_same, ex2 _ _ h1', ex2 _ _ h2', g, .inr ⟨l3, _, rfl, ex2 _ _ h3', by rw [List.length_map, List.length_range]⟩, hz, fun H4 wk R ⟨fs, hf⟩ => ⟨rfl, ?_⟩⟩
      have e4 := e3.trans (made_nw hx hdx ne wk hf)
      exact rt_nw e4 (q x H4 e4 R)
theorem ok_L_copied (T : Txt K mg C) (F : Fun K "_law_copied" "_law_copied" s_L_copied f fd) : FnOk P w K mg base CX0 1 f fd ["_law_paper"] spCopied := by
  refine okF F sc_L_copied (fun vs H Q E h => h.1) (fun vs H Q E h => ?_) (fun cdv A outer s0 H vs Q E hr h => ?_)
  · obtain ⟨_, p, c, ds, ls, rfl, _⟩ := h
    rfl
  · obtain ⟨nd, p, c, ds, ls, rfl, ⟨xs, hp, a, b, rfl, _, ha, L⟩, hd, hl, q⟩ := h
    refine ⟨_, (pss_one (ps_ret (pe_lst (pa_cons (pe_ix (show IxR _ (rIx K) from ix_seq) (pv 0) pe_int (fun _ _ => rfl)) (pa_cons (pe_callTy (show CallR _ _ (kList K) from call_list_of) (by rfl) T.list bt_list (pa_cons (pe_ix (show IxR _ (rIx K) from ix_seq) (pv 0) pe_int (fun _ _ => rfl)) pa_nil)) (pa_cons (pe_lc (own := [("_law_row", 1)]) (g := gName 1) (tt := tYes) rfl sc_L_copied.nd (pi_list (pe_ix (show IxR _ (rIx K) from ix_seq) (pv 0) pe_int (fun _ _ => rfl))) (blkOk_by (N := ["_law_paper", "_law_row"]) (sc := defScope s_L_copied) (by decide +kernel)) (fun _ _ _ _ _ => pg_name (i := 1) sc_L_copied.nd rfl (Or.inl rfl)) (fun _ _ _ _ _ => pts_nil) (fun _ _ _ _ _ => (pe_callTy (show CallR _ _ (kList K) from call_list_of) (by rfl) T.list bt_list (pa_cons (pv 1) pa_nil)))) pa_nil)))))), ?_⟩
    obtain ⟨_, as, hb, hal, hat⟩ := id L
    refine r_ret (r_lst (r_cons ?_))
    refine (va_op (va_var rfl) va_c (rv_ixX hp rfl)).go ?_
    refine r_cons ?_
    refine (mk_cb (vs_cons (va_op (va_var rfl) va_c (rv_ixX hp rfl)) vs_nil) (rn_listL (SqL.of ha))).go fun l1 n1 => ?_
    have e1 : Nw H (upd H l1 (.lst (ds.map V.int))) := (Nw.refl H).lst n1
    have hp1 : (upd H l1 (.lst (ds.map V.int))) p = some (.lst [.int c, .ref a, .ref b]) ∨ (upd H l1 (.lst (ds.map V.int))) p = some (.tup [.int c, .ref a, .ref b]) := hp.imp (e1.1 _ _) (e1.1 _ _)
    have hl1 : (upd H l1 (.lst (ds.map V.int))) l1 = some (.lst (ds.map V.int)) := upd_same
    generalize (upd H l1 (.lst (ds.map V.int))) = H1 at e1 hp1 hl1
    refine r_cons ?_
    refine lc_newL (fun i => ((ls.getD i []).map V.int)) (e1.nd nd) (va_op (va_var rfl) va_c (rv_ixX hp1 rfl)) (SqL.of (e1.1 _ _ hb)) (by rw [List.length_map]; omega) (fun _ => rfl) (fun i x H' hx ex nd' => ?_) (fun Dl H2 as2 hD ex clo nd2 hDl rows => ?_)
    · rw [List.getElem?_map] at hx
      cases hy : as[i]? with
      | none => rw [hy] at hx; cases hx
      | some y =>
        rw [hy] at hx
        cases hx
        have hi := (List.getElem?_eq_some_iff.mp hy).1
        have hli : ls[i]? = some ls[i] := List.getElem?_eq_getElem (by omega)
        obtain ⟨a', q1, _, q3⟩ := hat i _ hli
        rw [hy] at q1
        cases q1
        have e : ls.getD i [] = ls[i] := by rw [List.getD_eq_getElem?_getD, hli]; rfl
        rw [e]
        exact mk_cb (vs_cons (va_var rfl) vs_nil) (rn_listL (SqL.of ((e1.1.trans ex) _ _ q3)))
    · refine r_nil ⟨(by show 3 ≤ sizeLine; decide), fun p2 np2 => ?_⟩
      have LL := lli_rows (ls := ls) hD hDl rows (by rw [List.length_map, hal]) (fun i l hl => by rw [List.getD_eq_getElem?_getD, hl]; rfl)
      have e2 := e1.trans ⟨ex, clo⟩
      have e3 := e2.lst (xs := [.int c, .ref l1, .ref Dl]) np2
      refine rt_nw e3 (q p2 _ e3 ⟨fresh_back e2.1 np2, _, upd_same, l1, Dl, rfl, n1, ?_, ?_⟩)
      · exact Ex.new np2 _ _ (ex _ _ hl1)
      · exact (LL.ex (Ex.new np2)).imp fun z hz => fresh_back e1.1 hz
theorem ok_L_is_paper (T : Txt K mg C) (F : Fun K "_law_is_paper" "_law_is_paper" s_L_is_paper f fd) (c_L_is_int : C8.Cal P w K mg base 1 "_law_is_int" spIsInt []) (c_L_ints : C8.Cal P w K mg base 2 "_law_ints" spInts []) : FnOk P w K mg base CX0 3 f fd ["_law_told"] spIsPaper := by
  refine okF F sc_L_is_paper (fun vs H Q E h => h.1) (fun vs H Q E h => ?_) (fun cdv A outer s0 H vs Q E hr h => ?_)
  · obtain ⟨_, p, c, ds, ls, rfl, _⟩ := h
    rfl
  · obtain ⟨nd, p, c, ds, ls, rfl, ⟨_, xs, hp, a, b, rfl, _, ha, L⟩, q⟩ := h
    refine ⟨_, (pss_cons (ps_if (PW.pt (pw_or (pt_not (pt_val (pe_callB call_isi (by rfl) T.isinstance bt_isinstance (pa_cons (pv 0) (pa_cons (pe_bltn (by rfl) T.tuple bt_tuple (show RelV (V.ty "tuple") _ from rfl)) pa_nil))))) (pw_or (pt_cmpR op_ne (pe_callB call_len_seq (by rfl) T.len bt_len (pa_cons (pv 0) pa_nil)) pe_int (nomark _)) (pw_or (pt_not (pt_val (C8.pe_c c_L_is_int hr (by decide) (by rfl) (pa_cons (pe_ix ix_seq (pv 0) pe_int (fun _ _ => rfl)) pa_nil)))) (pw_or1 (pt_not (pt_val (C8.pe_c c_L_ints hr (by decide) (by rfl) (pa_cons (pe_ix ix_seq (pv 0) pe_int (fun _ _ => rfl)) pa_nil))))))))) (pss_one (ps_ret pe_bl)) pss_nil)
      (pss_cons (ps_if (pt_not (pt_val (pe_callB call_isi (by rfl) T.isinstance bt_isinstance (pa_cons (pe_ix ix_seq (pv 0) pe_int (fun _ _ => rfl)) (pa_cons (pe_bltn (by rfl) T.list bt_list (show RelV (V.ty "list") _ from rfl)) pa_nil))))) (pss_one (ps_ret pe_bl)) pss_nil)
      (pss_cons (ps_for PassesOwn.never rfl (pi_list (pe_ix ix_seq (pv 0) pe_int (fun _ _ => rfl))) (pg_name (i := 1) sc_L_is_paper.nd rfl (Or.inl rfl)) (pss_one (ps_if (pt_not (pt_val (C8.pe_c c_L_ints hr (by decide) (by rfl) (pa_cons (pv 1) pa_nil)))) (pss_one (ps_ret pe_bl)) pss_nil)))
      (pss_one (ps_ret pe_bl))))), ?_⟩
    obtain ⟨_, as, hb, hal, hat⟩ := id L
    refine w_when (b := false) (an_is (an_or (an_not (an_B (va_cb (vs_cons (va_var rfl) (vs_cons va_c vs_nil)) (rc_isTT hp)))) fun _ => an_or (an_test (va_op (va_cb (vs_cons (va_var rfl) vs_nil) (rc_lenT (SqT.of hp))) va_c rv_neI)) fun _ => an_or (an_not (an_B (va_call (z := .bl true) (vs_cons (va_op (va_var rfl) va_c (rv_ixX (.inr hp) rfl)) vs_nil) (fun Q E k => ⟨nd, c, rfl, k⟩)))) fun _ => an_not (an_B (va_call (z := .bl true) (vs_cons (va_op (va_var rfl) va_c (rv_ixX (.inr hp) rfl)) vs_nil) (fun Q E k => ⟨nd, a, ds, rfl, ha, k⟩)))) rfl) (fun z => by cases z) (fun _ => ?_)
    refine w_when (b := false) (an_not (an_B (va_cb (vs_cons (va_op (va_var rfl) va_c (rv_ixX (.inr hp) rfl)) (vs_cons va_c vs_nil)) (rc_isLL hb)))) (fun z => by cases z) (fun _ => ?_)
    refine w_forL (va_op (va_var rfl) va_c (rv_ixX (.inr hp) rfl)) (SqL.of hb) (fun i σ' H' => (∃ v : Option V, σ' = [some (.ref p), v]) ∧ H' = H) ⟨⟨none, rfl⟩, rfl⟩ (fun i σ' H' _ e => by rw [e.2]; exact SqL.of hb) ?_ ?_
    · rintro i x σ' H' hx ⟨⟨v, rfl⟩, rfl⟩
      rw [List.getElem?_map] at hx
      cases hy : as[i]? with
      | none => rw [hy] at hx; cases hx
      | some y =>
        rw [hy] at hx
        cases hx
        have hi := (List.getElem?_eq_some_iff.mp hy).1
        have hli : ls[i]? = some ls[i] := List.getElem?_eq_getElem (by omega)
        obtain ⟨a', q1, _, q3⟩ := hat i _ hli
        rw [hy] at q1
        cases q1
        refine e_when (b := false) (an_not (an_B (va_call (z := .bl true) (vs_cons (va_var rfl) vs_nil) (fun Q E k => ⟨nd, y, _, rfl, q3, k⟩)))) (fun z => by cases z) (fun _ => ?_)
        exact ⟨⟨_, rfl⟩, rfl⟩
    · rintro σ' H' ⟨⟨v, rfl⟩, rfl⟩
      exact w_ret va_c (rt_val (Ex.refl _) q)
end
end Fp

/-! ## E5 -/
set_option Elab.async false
set_option linter.all false
set_option maxRecDepth 100000
set_option maxHeartbeats 4000000
namespace Fp
open PySem L2 Fv
open Evl (Ex Ex.refl Ex.trans Ex.new fresh_back ex_rd ex_l ex_t)
open Fw
local macro_rules | `(tactic| walk_at "va") => `(tactic| first
  | with_reducible exact va_c
  | ((with_reducible apply va_var); exact rfl)
  | with_reducible exact vs_nil
  | ((with_reducible apply vs_cons) <;> walk_at "va")
  | ((with_reducible apply va_op) <;> walk_at "va")
  | ((with_reducible apply va_un) <;> walk_at "va")
  | ((with_reducible apply va_cb) <;> walk_at "va")
  | ((with_reducible apply va_call) <;> walk_at "va")
  | ((with_reducible apply an_test) <;> walk_at "va")
  | ((with_reducible apply an_B) <;> walk_at "va")
  | ((with_reducible apply an_not) <;> walk_at "va")
  | ((with_reducible apply va_chain) <;> walk_at "va")
  | ((with_reducible apply mk_lst) <;> first | walk_at "va" | (show _ ≤ 100000; decide))
  | ((with_reducible apply mk_tup) <;> first | walk_at "va" | (show _ ≤ 100000; decide))
  | ((with_reducible apply mk_cb) <;> walk_at "va")
  | ((with_reducible apply mk_call) <;> walk_at "va")
  | with_reducible exact rv_I0
  | with_reducible exact rv_eqI
  | with_reducible exact rv_neI
  | with_reducible exact ru_neg
  | with_reducible exact rc_int1
  | with_reducible exact rc_abs
  | with_reducible exact rc_max2
  | with_reducible exact rc_min2
  | ((with_reducible apply rc_sum); assumption)
  | ((with_reducible apply rc_lenLI); assumption)
  | ((with_reducible apply rc_lenTI); assumption)
  | ((with_reducible apply rc_lenL); assumption)
  | ((with_reducible apply rc_lenT); assumption)
  | ((with_reducible apply rv_ixL) <;> assumption)
  | ((with_reducible apply rv_ixT) <;> assumption)
  | ((with_reducible apply rv_ixSL) <;> assumption)
  | ((with_reducible apply rv_ixST) <;> assumption)
  | ((with_reducible apply rv_inL); assumption)
  | ((with_reducible apply rv_inT); assumption)
  | ((with_reducible apply rv_ninL); assumption)
  | ((with_reducible apply rv_ninT); assumption)
  | ((with_reducible apply rn_listL); assumption)
  | ((with_reducible apply rn_listT); assumption)
  | ((with_reducible apply rn_tupleL); assumption)
  | assumption)
/-! ### holds, paper_of -/
def spPaperOf : Sp := fun vs H Q _ => ND H ∧ ∃ d ps gs n p ch, vs = [.ref d, .int n, .ref p] ∧ Dra H d ps gs ∧ Good ps gs ∧ ps.length ≤ 1000 ∧ gs.length ≤ 1000 ∧ 1 ≤ n ∧ H p = some (.lst (ch.map V.int)) ∧ ch.length ≤ 1000 ∧ InL ps ch ∧ ch ≠ [] ∧
  ∀ q H2 c ls, Nw H H2 → PapL (fun a => H a = none) H2 q c ch ls → ls.length = gs.length → (∀ l ∈ ls, l.length ≤ gs.length) → Q (.ref q) H2
section
variable {P : Program} {w : World} {K : PySem.W.Frag} {mg : Str → Option Value} {base : Heap} {C f : Addr} {fd : FuncData}
theorem ok_L_holds (T : Txt K mg C) (F : Fun K "_law_holds" "_law_holds" s_L_holds f fd) (c_L_is_set : C8.Cal P w K mg base 1 "_law_is_set" spLSet []) (c_L_cost : C8.Cal P w K mg base 3 "_law_cost" spLCost []) (c_L_sums : C8.Cal P w K mg base 1 "_law_sums" spSums [])
    (c_L_leaps : C8.Cal P w K mg base 2 "_law_leaps" spLLeaps []) (c_L_back : C8.Cal P w K mg base 1 "_law_back" spBack []) : FnOk P w K mg base CX0 4 f fd ["_law_drawn_here", "_law_count", "_law_paper"] spHolds := by
  refine okF F sc_L_holds (fun vs H Q E h => h.1) (fun vs H Q E h => ?_) (fun cdv A outer s0 H vs Q E hr h => ?_)
  · obtain ⟨_, d, ps, gs, n, p, c, ds, ls, rfl, _⟩ := h
    rfl
  · obtain ⟨nd, d, ps, gs, n, p, c, ds, ls, rfl, ⟨a0, b0, hd, ha0, hb0⟩, g, hzp, hzg, hn, ⟨xs, hp, a, b, rfl, _, ha, L⟩, hds, hls, q⟩ := h
    refine ⟨_, (pss_cons (ps_set (i := 3) sc_L_holds.nd rfl (Or.inl rfl) (pe_ix ix_tup (pv 0) pe_int (fun _ _ => rfl)))
      (pss_cons (ps_if (PW.pt (pw_or (pt_not (pt_val (C8.pe_c c_L_is_set hr (by decide) (by rfl) (pa_cons (pv 3) (pa_cons (pv 1) (pa_cons (pe_ix ix_seq (pv 2) pe_int (fun _ _ => rfl)) pa_nil)))))) (pw_or1 (pt_cmpR op_ne (C8.pe_c c_L_cost hr (by decide) (by rfl) (pa_cons (pe_ix ix_tup (pv 0) pe_int (fun _ _ => rfl)) (pa_cons (pe_ix ix_seq (pv 2) pe_int (fun _ _ => rfl)) pa_nil))) (pe_ix ix_seq (pv 2) pe_int (fun _ _ => rfl)) (nomark _))))) (pss_one (ps_ret pe_bl)) pss_nil)
      (pss_cons (ps_if (pt_cmpR op_ne (pe_callB call_len_seq (by rfl) T.len bt_len (pa_cons (pe_ix ix_seq (pv 2) pe_int (fun _ _ => rfl)) pa_nil)) (pe_callB call_len_seq (by rfl) T.len bt_len (pa_cons (pv 3) pa_nil)) (nomark _)) (pss_one (ps_ret pe_bl)) pss_nil)
      (pss_cons (ps_set (i := 4) sc_L_holds.nd rfl (Or.inl rfl) (C8.pe_c c_L_sums hr (by decide) (by rfl) (pa_cons (pe_ix ix_tup (pv 0) pe_int (fun _ _ => rfl)) pa_nil)))
      (pss_cons (ps_for PassesOwn.never rfl (pi_range1 (by rfl) T.range (pa_cons (pe_callB call_len_seq (by rfl) T.len bt_len (pa_cons (pv 3) pa_nil)) pa_nil)) (pg_name (i := 5) sc_L_holds.nd rfl (Or.inl rfl)) (pss_cons (ps_set (i := 6) sc_L_holds.nd rfl (Or.inl rfl) (C8.pe_c c_L_leaps hr (by decide) (by rfl) (pa_cons (pv 4) (pa_cons (pv 3) (pa_cons (pe_ix ix_list (pv 3) (pv 5) (fun _ _ => rfl)) (pa_cons (pv 1) (pa_cons (pe_ix ix_seq (pv 2) pe_int (fun _ _ => rfl)) pa_nil)))))))
        (pss_one (ps_if (PW.pt (pw_or (pt_cmpR (op_neD hr.units) (pe_ix ix_list (pe_ix ix_seq (pv 2) pe_int (fun _ _ => rfl)) (pv 5) (fun _ _ => rfl)) (pv 6) (nomark _)) (pw_or1 (pt_cmpR op_lt (C8.pe_c c_L_back hr (by decide) (by rfl) (pa_cons (pv 4) (pa_cons (pe_ix ix_list (pv 6) (pe_un un_neg pe_int) (fun _ _ => rfl)) (pa_cons (pe_ix ix_list (pv 3) (pv 5) (fun _ _ => rfl)) pa_nil)))) (pe_op op_sub (pe_ix ix_list (pv 4) (pe_un un_neg pe_int) (fun _ _ => rfl)) (pe_ix ix_seq (pv 2) pe_int (fun _ _ => rfl))) (nomark _))))) (pss_one (ps_ret pe_bl)) pss_nil))))
      (pss_one (ps_ret pe_bl))))))), ?_⟩
    obtain ⟨_, as, hb, hal, hat⟩ := id L
    have no : ∀ {H' : Hp}, Ex H H' → ¬ Acc ps gs n c ds ls → Rt H Q (.bl false) H' := fun e h => rt_val e (q false (iff_no h))
    have hX : ∀ {H' : Hp}, Ex H H' → H' p = some (.lst [.int c, .ref a, .ref b]) ∨ H' p = some (.tup [.int c, .ref a, .ref b]) := fun e => hp.imp (e _ _) (e _ _)
    refine w_asg (va_op (va_var rfl) va_c (rv_ixT (SqT.of hd) rfl)) ?_
    obtain ⟨b1, hb1⟩ := yes_no (IsSet gs n ds)
    have hv : SV spLSet [.ref b0, .int n, .ref a] H (.bl b1) := fun Q E k => ⟨nd, b0, gs, n, a, ds, rfl, hb0, ha, hds, fun b' hb' => by rw [iff_same hb' hb1]; exact k⟩
    refine w_when (an_or (c := !decide (cost ps ds = c)) (an_not (an_B (va_call (vs_cons (va_var rfl) (vs_cons (va_var rfl) (vs_cons (va_op (va_var rfl) va_c (rv_ixX hp rfl)) vs_nil))) hv))) (fun e => ?_)) (fun e => ?_) (fun e => ?_)
    · have e : b1 = true := by simpa using e
      have S := hb1.mp e
      exact an_test (va_op (va_call (vs_cons (va_op (va_var rfl) va_c (rv_ixT (SqT.of hd) rfl)) (vs_cons (va_op (va_var rfl) va_c (rv_ixX hp rfl)) vs_nil)) (fun Q E k => ⟨nd, a0, ps, a, ds, rfl, ha0, by omega, ha, by omega, fun x hx => g.inn (S.mem x hx), iso_len S, k⟩)) (va_op (va_var rfl) va_c (rv_ixX hp rfl)) rv_neI)
    · refine w_ret va_c (no (Ex.refl _) fun z => ?_)
      rw [hb1.mpr z.set, decide_eq_true z.cost] at e
      cases e
    · have e : b1 = true ∧ cost ps ds = c := by simpa using e
      have S := hb1.mp e.1
      have ec := e.2
      refine w_when (an_test (va_op (va_cb (vs_cons (va_op (va_var rfl) va_c (rv_ixX hp rfl)) vs_nil) (rc_lenL (SqL.of hb))) (va_cb (vs_cons (va_var rfl) vs_nil) (rc_lenLI (SqL.of hb0))) rv_neI)) (fun b' => ?_) (fun b' => ?_)
      · refine w_ret va_c (no (Ex.refl _) fun z => ?_)
        have := acc_len z
        rw [List.length_map, hal, this, decide_eq_true rfl] at b'
        cases b'
      · rw [Bool.not_eq_false', decide_eq_true_eq, List.length_map] at b'
        have hlg : ls.length = gs.length := by omega
        refine w_asgN (mk_call (vs_cons (va_op (va_var rfl) va_c (rv_ixT (SqT.of hd) rfl)) vs_nil) (fun Q E q => ⟨nd, a0, ps, rfl, ha0, by omega, q⟩)) (fun sm nsm => ?_)
        have e1 : Nw H (upd H sm (.lst ((sums ps).map V.int))) := (Nw.refl H).lst nsm
        have hsm : (upd H sm (.lst ((sums ps).map V.int))) sm = some (.lst ((sums ps).map V.int)) := upd_same
        generalize (upd H sm (.lst ((sums ps).map V.int))) = H1 at e1 hsm
        refine w_forR (n := gs.length) (vs_cons (va_cb (vs_cons (va_var rfl) vs_nil) (rc_lenLI (SqL.of (e1.1 _ _ hb0)))) vs_nil) (by omega)
          (fun i σ' H' => ∃ v1 v2 : Option V, σ' = [some (.ref d), some (.int n), some (.ref p), some (.ref b0), some (.ref sm), v1, v2] ∧ Nw H1 H' ∧ ∀ k s, k < i → gs[k]? = some s → ls[k]? = some (leapsM ps gs (W ps - c - 1) n s) ∧ W ps - c ≤ way ps (lastD s (leapsR ps (W ps - c - 1) (n - 1).toNat s (ahead gs s))) s)
          ⟨none, none, rfl, Nw.refl _, fun k s hk => absurd hk (Nat.not_lt_zero k)⟩ ?_ ?_
        · rintro i σ' H' hi ⟨v1, v2, rfl, e2, hok⟩
          have hs : gs[i]? = some gs[i] := List.getElem?_eq_getElem hi
          generalize gs[i] = s at hs
          have hsg := List.mem_of_getElem? hs
          have hl : ls[i]? = some ls[i] := List.getElem?_eq_getElem (by omega)
          generalize ls[i] = lr at hl
          obtain ⟨at', q1, _, q3⟩ := hat i lr hl
          have e12 := e1.trans e2
          have nd2 := e12.nd nd
          have hb2 := e12.1 _ _ hb0
          refine w_asgN (mk_call (vs_cons (va_var rfl) (vs_cons (va_var rfl) (vs_cons (va_op (va_var rfl) (va_var rfl) (rv_ixL (SqL.of hb2) (at_int hs))) (vs_cons (va_var rfl) (vs_cons (va_op (va_var rfl) va_c (rv_ixX (hX e12.1) rfl)) vs_nil))))) (fun Q E q => ⟨nd2, sm, b0, ps, gs, s, n, c, rfl, e2.1 _ _ hsm, hb2, g, hsg, hzg, hn, q⟩)) (fun p2 np2 => ?_)
          have e3 := e2.lst (xs := (leapsM ps gs (W ps - c - 1) n s).map V.int) np2
          have h2 : (upd H' p2 (.lst ((leapsM ps gs (W ps - c - 1) n s).map V.int))) p2 = some (.lst ((leapsM ps gs (W ps - c - 1) n s).map V.int)) := upd_same
          generalize (upd H' p2 (.lst ((leapsM ps gs (W ps - c - 1) n s).map V.int))) = H3 at e3 h2
          have e13 := e1.trans e3
          have hlg' : lastD s (leapsM ps gs (W ps - c - 1) n s) ∈ gs := by
            rcases List.mem_cons.mp (lastD_mem (leapsM ps gs (W ps - c - 1) n s) s) with z | z
            · rw [z]; exact hsg
            · exact leapsM_mem hsg _ z
          have hll : atI ((leapsM ps gs (W ps - c - 1) n s).map V.int) (-1) = some (.int (lastD s (leapsM ps gs (W ps - c - 1) n s))) := last_ints s (List.cons_ne_nil _ _)
          have sm3 := SqL.of (K := K) (e3.1 _ _ hsm)
          refine e_when (an_or (an_test (va_op (va_op (va_op (va_var rfl) va_c (rv_ixX (hX e13.1) rfl)) (va_var rfl) (rv_ixL (SqL.of (e13.1 _ _ hb)) (refs_at q1))) (va_var rfl) (rv_neInts (SqL.of (e13.1 _ _ q3)) (SqL.of h2))))
            (fun _ => an_test (va_op (va_call (vs_cons (va_var rfl) (vs_cons (va_op (va_var rfl) (va_un va_c ru_neg) (rv_ixL (SqL.of h2) hll)) (vs_cons (va_op (va_var rfl) (va_var rfl) (rv_ixL (SqL.of (e13.1 _ _ hb0)) (at_int hs))) vs_nil))) (sv_back (e13.nd nd) (e3.1 _ _ hsm) g.pos (g.inn hlg') (g.inn hsg))) (va_op (va_op (va_var rfl) (va_un va_c ru_neg) (rv_ixL sm3 sums_last)) (va_op (va_var rfl) va_c (rv_ixX (hX e13.1) rfl)) rv_I0) rv_I0))) (fun b' => ?_) (fun b' => ?_)
          · refine w_ret va_c (no e13.1 fun z => ?_)
            have z1 := map_at z.leaps hs
            rw [hl] at z1
            have z1 := Option.some.inj z1
            have z2 : W ps - c ≤ way ps (lastD s (leapsM ps gs (W ps - c - 1) n s)) s := z.back s hsg
            rw [decide_eq_true z1, decide_eq_false (by omega)] at b'
            cases b'
          · rw [Bool.or_eq_false_iff, Bool.not_eq_false', decide_eq_true_eq, decide_eq_false_iff_not] at b'
            refine ⟨_, _, rfl, e3, fun k t hk ht => ?_⟩
            by_cases ek : k < i
            · exact hok k t ek ht
            · have ek : k = i := by omega
              subst ek
              rw [hs] at ht
              cases ht
              refine ⟨by rw [hl, b'.1], ?_⟩
              have z2 : ¬ way ps (lastD s (leapsR ps (W ps - c - 1) (n - 1).toNat s (ahead gs s))) s < W ps - c := b'.2
              omega
        · rintro σ' H' ⟨v1, v2, rfl, e2, hok⟩
          refine w_ret va_c (rt_val (e1.trans e2).1 (q true (iff_yes ⟨S, ec, ?_, ?_⟩)))
          · refine map_of hlg fun k s l hs hl => ?_
            have := (hok k s (List.getElem?_eq_some_iff.mp hs).1 hs).1
            rw [hl] at this
            exact Option.some.inj this
          · intro s hs
            obtain ⟨k, hk⟩ := List.getElem?_of_mem hs
            exact (hok k s (List.getElem?_eq_some_iff.mp hk).1 hk).2
theorem ok_L_paper_of (T : Txt K mg C) (F : Fun K "_law_paper_of" "_law_paper_of" s_L_paper_of f fd) (c_L_cost : C8.Cal P w K mg base 3 "_law_cost" spLCost []) (c_L_sums : C8.Cal P w K mg base 1 "_law_sums" spSums [])
    (c_L_leaps : C8.Cal P w K mg base 2 "_law_leaps" spLLeaps []) : FnOk P w K mg base CX0 4 f fd ["_law_drawn_here", "_law_count", "_law_chosen"] spPaperOf := by
  refine okF F sc_L_paper_of (fun vs H Q E h => h.1) (fun vs H Q E h => ?_) (fun cdv A outer s0 H vs Q E hr h => ?_)
  · obtain ⟨_, d, ps, gs, n, p, ch, rfl, _⟩ := h
    rfl
  · obtain ⟨nd, d, ps, gs, n, p, ch, rfl, ⟨a0, b0, hd, ha0, hb0⟩, g, hzp, hzg, hn, hp, hzc, hin, hne, q⟩ := h
    refine ⟨_, (pss_cons (ps_set (i := 3) sc_L_paper_of.nd rfl (Or.inr rfl) (C8.pe_c c_L_sums hr (by decide) (by rfl) (pa_cons (pe_ix (show IxR _ (rIxT K) from ix_tup) (pv 0) pe_int (fun _ _ => rfl)) pa_nil)))
      (pss_cons (ps_set (i := 4) sc_L_paper_of.nd rfl (Or.inr rfl) (C8.pe_c c_L_cost hr (by decide) (by rfl) (pa_cons (pe_ix (show IxR _ (rIxT K) from ix_tup) (pv 0) pe_int (fun _ _ => rfl)) (pa_cons (pv 2) pa_nil))))
      (pss_one (ps_ret (pe_lst (pa_cons (pv 4) (pa_cons (pe_callTy (show CallR _ _ (kList K) from call_list_of) (by rfl) T.list bt_list (pa_cons (pv 2) pa_nil)) (pa_cons (pe_lc (own := [("_law_gate", 5)]) (g := gName 5) (tt := tYes) rfl sc_L_paper_of.nd (pi_list (pe_ix (show IxR _ (rIxT K) from ix_tup) (pv 0) pe_int (fun _ _ => rfl))) (blkOk_by (N := ["_law_drawn_here", "_law_count", "_law_chosen", "_law_sums_here", "_law_cost_here", "_law_gate"]) (sc := defScope s_L_paper_of) (by decide +kernel)) (fun _ _ _ _ _ => pg_name (i := 5) sc_L_paper_of.nd rfl (Or.inl rfl)) (fun _ _ _ _ _ => pts_nil) (fun _ _ _ _ _ => (C8.pe_c c_L_leaps hr (by decide) (by rfl) (pa_cons (pv 3) (pa_cons (pe_ix (show IxR _ (rIxT K) from ix_tup) (pv 0) pe_int (fun _ _ => rfl)) (pa_cons (pv 5) (pa_cons (pv 1) (pa_cons (pv 4) pa_nil)))))))) pa_nil)))))))), ?_⟩
    refine w_asgN (mk_call (vs_cons (va_op (va_var rfl) va_c (rv_ixT (SqT.of hd) rfl)) vs_nil) (fun Q E q => ⟨nd, a0, ps, rfl, ha0, by omega, q⟩)) (fun sm nsm => ?_)
    have e1 : Nw H (upd H sm (.lst ((sums ps).map V.int))) := (Nw.refl H).lst nsm
    have hsm : (upd H sm (.lst ((sums ps).map V.int))) sm = some (.lst ((sums ps).map V.int)) := upd_same
    generalize (upd H sm (.lst ((sums ps).map V.int))) = H1 at e1 hsm
    refine w_asg (va_call (vs_cons (va_op (va_var rfl) va_c (rv_ixT (SqT.of (e1.1 _ _ hd)) rfl)) (vs_cons (va_var rfl) vs_nil)) (fun Q E k => ⟨e1.nd nd, a0, ps, p, ch, rfl, e1.1 _ _ ha0, by omega, e1.1 _ _ hp, by omega, hin, hne, k⟩)) ?_
    refine r_ret (r_lst (r_cons ?_))
    refine (va_var rfl).go ?_
    refine r_cons ?_
    refine (mk_cb (vs_cons (va_var rfl) vs_nil) (rn_listL (SqL.of (e1.1 _ _ hp)))).go fun l1 n1 => ?_
    have e2 := e1.lst (xs := ch.map V.int) n1
    have hl1 : (upd H1 l1 (.lst (ch.map V.int))) l1 = some (.lst (ch.map V.int)) := upd_same
    have hsm2 := Ex.new (o := .lst (ch.map V.int)) n1 _ _ hsm
    generalize (upd H1 l1 (.lst (ch.map V.int))) = H2 at e2 hl1 hsm2
    refine r_cons ?_
    refine lc_newL (fun i => ((leapsM ps gs (W ps - cost ps ch - 1) n (gs.getD i 0)).map V.int)) (e2.nd nd) (va_op (va_var rfl) va_c (rv_ixT (SqT.of (e2.1 _ _ hd)) rfl)) (SqL.of (e2.1 _ _ hb0)) (by rw [List.length_map]; omega) (fun _ => rfl) (fun i x H' hx ex nd' => ?_) (fun Dl H3 as2 hD ex clo nd3 hDl rows => ?_)
    · rw [List.getElem?_map] at hx
      cases hy : gs[i]? with
      | none => rw [hy] at hx; cases hx
      | some s =>
        rw [hy] at hx
        cases hx
        have e : gs.getD i 0 = s := by rw [List.getD_eq_getElem?_getD, hy]; rfl
        rw [e]
        have ee := e2.1.trans ex
        exact mk_call (vs_cons (va_var rfl) (vs_cons (va_op (va_var rfl) va_c (rv_ixT (SqT.of (ee _ _ hd)) rfl)) (vs_cons (va_var rfl) (vs_cons (va_var rfl) (vs_cons (va_var rfl) vs_nil))))) (fun Q E q => ⟨nd', sm, b0, ps, gs, s, n, cost ps ch, rfl, ex _ _ hsm2, ee _ _ hb0, g, List.mem_of_getElem? hy, hzg, hn, q⟩)
    · refine r_nil ⟨(by show 3 ≤ sizeLine; decide), fun p2 np2 => ?_⟩
      have LL := lli_rows (ls := gs.map (leapsM ps gs (W ps - cost ps ch - 1) n)) hD hDl rows (by rw [List.length_map, List.length_map]) (fun i l hl => by
        rw [List.getElem?_map] at hl
        cases hy : gs[i]? with
        | none => rw [hy] at hl; cases hl
        | some s =>
          rw [hy] at hl
          cases hl
          rw [List.getD_eq_getElem?_getD, hy]
          rfl)
      have e3 := e2.trans ⟨ex, clo⟩
      have e4 := e3.lst (xs := [.int (cost ps ch), .ref l1, .ref Dl]) np2
      refine rt_nw e4 (q p2 _ (cost ps ch) (gs.map (leapsM ps gs (W ps - cost ps ch - 1) n)) e4 ⟨fresh_back e3.1 np2, _, upd_same, l1, Dl, rfl, fresh_back e1.1 n1, ?_, ?_⟩ (by rw [List.length_map]) (fun l hl => ?_))
      · exact Ex.new np2 _ _ (ex _ _ hl1)
      · exact (LL.ex (Ex.new np2)).imp fun z hz => fresh_back e2.1 hz
      · obtain ⟨s, hs, rfl⟩ := List.mem_map.mp hl
        exact leapsM_len hs
end
end Fp

/-! ## E6 -/
set_option Elab.async false
set_option linter.all false
set_option maxRecDepth 100000
set_option maxHeartbeats 4000000
namespace Fp
open PySem L2 Fv
open Evl (Ex Ex.refl Ex.trans Ex.new fresh_back ex_rd ex_l ex_t)
open Fw
local macro_rules | `(tactic| walk_at "va") => `(tactic| first
  | with_reducible exact va_c
  | ((with_reducible apply va_var); exact rfl)
  | with_reducible exact vs_nil
  | ((with_reducible apply vs_cons) <;> walk_at "va")
  | ((with_reducible apply va_op) <;> walk_at "va")
  | ((with_reducible apply va_un) <;> walk_at "va")
  | ((with_reducible apply va_cb) <;> walk_at "va")
  | ((with_reducible apply va_call) <;> walk_at "va")
  | ((with_reducible apply an_test) <;> walk_at "va")
  | ((with_reducible apply an_B) <;> walk_at "va")
  | ((with_reducible apply an_not) <;> walk_at "va")
  | ((with_reducible apply va_chain) <;> walk_at "va")
  | ((with_reducible apply mk_lst) <;> first | walk_at "va" | (show _ ≤ 100000; decide))
  | ((with_reducible apply mk_tup) <;> first | walk_at "va" | (show _ ≤ 100000; decide))
  | ((with_reducible apply mk_cb) <;> walk_at "va")
  | ((with_reducible apply mk_call) <;> walk_at "va")
  | with_reducible exact rv_I0
  | with_reducible exact rv_eqI
  | with_reducible exact rv_neI
  | with_reducible exact ru_neg
  | with_reducible exact rc_int1
  | with_reducible exact rc_abs
  | with_reducible exact rc_max2
  | with_reducible exact rc_min2
  | ((with_reducible apply rc_sum); assumption)
  | ((with_reducible apply rc_lenLI); assumption)
  | ((with_reducible apply rc_lenTI); assumption)
  | ((with_reducible apply rc_lenL); assumption)
  | ((with_reducible apply rc_lenT); assumption)
  | ((with_reducible apply rv_ixL) <;> assumption)
  | ((with_reducible apply rv_ixT) <;> assumption)
  | ((with_reducible apply rv_ixSL) <;> assumption)
  | ((with_reducible apply rv_ixST) <;> assumption)
  | ((with_reducible apply rv_inL); assumption)
  | ((with_reducible apply rv_inT); assumption)
  | ((with_reducible apply rv_ninL); assumption)
  | ((with_reducible apply rv_ninT); assumption)
  | ((with_reducible apply rn_listL); assumption)
  | ((with_reducible apply rn_listT); assumption)
  | ((with_reducible apply rn_tupleL); assumption)
  | assumption)
/-! ### sets of doors: some, the best ones, the greatest costs by number -/
def spSome : Sp := fun vs H Q _ => ND H ∧ ∃ d ps gs k, vs = [.ref d, .int k] ∧ Dra H d ps gs ∧ gs ≠ [] ∧ gs.length ≤ 1000 ∧
  ∀ (q : Addr) (ch : List Int), H q = none → ch ≠ [] → (∀ x ∈ ch, x ∈ gs) → ch.length ≤ gs.length → (subM gs k ≠ [] → ch = subM gs k) → Q (.ref q) (upd H q (.lst (ch.map V.int)))
def spBestDoors : Sp := fun vs H Q _ => ND H ∧ ∃ d ps gs n c k, vs = [.ref d, .int n, .int c, .int k] ∧ Dra H d ps gs ∧ Good ps gs ∧ ps.length ≤ 1000 ∧ gs.length ≤ 12 ∧ (∃ T, IsSet gs n T ∧ cost ps T = c) ∧
  ∀ (q : Addr) (H2 : Hp) (ch : List Int), Nw H H2 → H q = none → H2 q = some (.lst (ch.map V.int)) → ch ≠ [] → (∀ x ∈ ch, x ∈ gs) → ch.length ≤ gs.length → Q (.ref q) H2
def spBest : Sp := fun vs H Q _ => ND H ∧ ∃ a b ps gs, vs = [.ref a, .ref b] ∧ H a = some (.lst (ps.map V.int)) ∧ H b = some (.lst (gs.map V.int)) ∧ Good ps gs ∧ ps.length ≤ 1000 ∧ gs.length ≤ 12 ∧
  ∀ (q : Addr) (H2 : Hp) (bs : List Int), Nw H H2 → H q = none → H2 q = some (.lst (bs.map V.int)) → bs.length = gs.length + 1 → (∀ n c T, 1 ≤ n → Best ps gs n c T → gi bs (min n (gs.length : Int)) = c) → Q (.ref q) H2
/-- a list of doors -/
def DL (H H' : Hp) (gs : List Int) (a : Addr) : Prop := H a = none ∧ ∃ ch : List Int, H' a = some (.lst (ch.map V.int)) ∧ ch ≠ [] ∧ (∀ x ∈ ch, x ∈ gs) ∧ ch.length ≤ gs.length
theorem ints_map {gs : List Int} {i : Nat} {x : V} (h : (gs.map V.int)[i]? = some x) : ∃ s, gs[i]? = some s ∧ x = V.int s := by
  rw [List.getElem?_map] at h
  cases hy : gs[i]? with
  | none => rw [hy] at h; cases h
  | some s =>
    rw [hy] at h
    cases h
    exact ⟨s, rfl, rfl⟩
theorem pow_le (n : Nat) (h : n ≤ 12) : (2 : Int) ^ n ≤ 4096 := by
  have h1 : (2 : Nat) ^ n ≤ 2 ^ 12 := Nat.pow_le_pow_right (by decide) h
  have h2 : ((2 ^ n : Nat) : Int) = (2 : Int) ^ n := by simp
  rw [← h2]
  have h3 : (2 : Nat) ^ 12 = 4096 := by decide
  omega
theorem pow_pos2 (n : Nat) : (1 : Int) ≤ 2 ^ n := Int.pow_pos (by decide)
section
variable {P : Program} {w : World} {K : PySem.W.Frag} {mg : Str → Option Value} {base : Heap} {C f : Addr} {fd : FuncData}
theorem ok_L_some_doors (T : Txt K mg C) (F : Fun K "_law_some_doors" "_law_some_doors" s_L_some_doors f fd) : FnOk P w K mg base CX0 1 f fd ["_law_drawn_here", "_law_digit"] spSome := by
  refine okF F sc_L_some_doors (fun vs H Q E h => h.1) (fun vs H Q E h => ?_) (fun cdv A outer s0 H vs Q E hr h => ?_)
  · obtain ⟨_, d, ps, gs, k, rfl, _⟩ := h
    rfl
  · obtain ⟨nd, d, ps, gs, k, rfl, ⟨a0, b0, hd, ha0, hb0⟩, hne, hz, q⟩ := h
    refine ⟨_, (pss_cons (ps_set (i := 2) sc_L_some_doors.nd rfl (Or.inl rfl) (pv 1))
      (pss_cons (ps_set (i := 3) sc_L_some_doors.nd rfl (Or.inl rfl) (pe_lst pa_nil))
      (pss_cons (ps_for PassesOwn.never rfl (pi_list (pe_ix ix_tup (pv 0) pe_int (fun _ _ => rfl))) (pg_name (i := 4) sc_L_some_doors.nd rfl (Or.inl rfl)) (pss_cons (ps_if (pt_cmpR op_eq (pe_op op_mod (pe_callTy call_int1 (by rfl) T.int bt_int (pa_cons (pv 2) pa_nil)) pe_int) pe_int (nomark _)) (pss_one (ps_expr (pe_bm PySem.F.plainAttrs_list PySem.F.slot_list_append PySem.F.type_list_append mt_append (pv 3) (pa_cons (pv 4) pa_nil)))) pss_nil)
        (pss_one (ps_set (i := 2) sc_L_some_doors.nd rfl (Or.inl rfl) (pe_op op_fdiv (pv 2) pe_int)))))
      (pss_cons (ps_if (pt_cmpR op_eq (pe_callB call_len_seq (by rfl) T.len bt_len (pa_cons (pv 3) pa_nil)) pe_int (nomark _)) (pss_one (ps_expr (pe_bm PySem.F.plainAttrs_list PySem.F.slot_list_append PySem.F.type_list_append mt_append (pv 3) (pa_cons (pe_ix ix_list (pe_ix ix_tup (pv 0) pe_int (fun _ _ => rfl)) (pe_op op_mod (pe_callTy call_int1 (by rfl) T.int bt_int (pa_cons (pv 1) pa_nil)) (pe_callB call_len_seq (by rfl) T.len bt_len (pa_cons (pe_ix ix_tup (pv 0) pe_int (fun _ _ => rfl)) pa_nil))) (fun _ _ => rfl)) pa_nil)))) pss_nil)
      (pss_one (ps_ret (pv 3))))))), ?_⟩
    have hgl : 0 < gs.length := List.length_pos_iff.mpr hne
    refine w_asg (va_var rfl) ?_
    refine w_asgN (mk_lst vs_nil (by show 0 ≤ 100000; decide)) (fun l nl => ?_)
    have sd : ∀ xs, SqT K (upd H l (.lst xs)) d [.ref a0, .ref b0] := fun xs => SqT.of (Ex.new nl _ _ hd)
    have sb : ∀ xs, SqL K (upd H l (.lst xs)) b0 (gs.map V.int) := fun xs => SqL.of (Ex.new nl _ _ hb0)
    refine w_forL (va_op (va_var rfl) va_c (rv_ixT (sd _) rfl)) (sb _) (fun i σ' H' => ∃ v : Option V, σ' = [some (.ref d), some (.int k), some (.int (halves i k)), some (.ref l), v] ∧ H' = upd H l (.lst ((subM (gs.take i) k).map V.int)))
      ⟨none, rfl, rfl⟩ (fun i σ' H' _ ⟨_, _, e⟩ => by rw [e]; exact sb _) ?_ ?_
    · rintro i x σ' H' hx ⟨v, rfl, rfl⟩
      obtain ⟨y, hy, rfl⟩ := ints_map hx
      have est := sub_take (r := k) hy
      have hlen : (subM (gs.take i) k).length ≤ 1000 := by
        have h1 := (sub_sub (gs.take i) k).length_le
        have h2 := List.length_take_le i gs
        have h3 : (gs.take i).length ≤ gs.length := by rw [List.length_take]; omega
        omega
      refine w_whenC (fun σ' H' => σ' = [some (.ref d), some (.int k), some (.int (halves i k)), some (.ref l), some (.int y)] ∧ H' = upd H l (.lst ((subM (gs.take (i + 1)) k).map V.int)))
        (an_test (va_op (va_op (va_cb (vs_cons (va_var rfl) vs_nil) rc_int1) va_c (rv_I (show (0 : Int) < 2 by decide))) va_c rv_eqI)) (fun b kk => ?_) (fun b => ?_) ?_
      · have b := of_decide_eq_true b
        refine e_app upd_same (va_var rfl) (va_var rfl) (by rw [List.length_map]; omega) (kk _ _ ⟨rfl, ?_⟩)
        rw [upd_upd, est, if_pos b, List.map_append]
        rfl
      · have b := of_decide_eq_false b
        refine ⟨rfl, ?_⟩
        rw [est, if_neg b, List.append_nil]
      · rintro σ' H' ⟨rfl, rfl⟩
        refine e_asg (va_op (va_var rfl) va_c (rv_I (cdivP (by decide) (by decide)))) ?_
        refine ⟨some (.int y), ?_, rfl⟩
        rw [halves_succ]
        rfl
    · rintro σ' H' ⟨v, rfl, rfl⟩
      rw [List.length_map, List.take_length]
      have es : SqL K (upd H l (.lst ((subM gs k).map V.int))) l ((subM gs k).map V.int) := SqL.of upd_same
      refine w_whenC (fun σ' H' => ∃ (v : Option V) (r : Int) (ch : List Int), σ' = [some (.ref d), some (.int k), some (.int r), some (.ref l), v] ∧ H' = upd H l (.lst (ch.map V.int)) ∧ ch ≠ [] ∧ (∀ x ∈ ch, x ∈ gs) ∧ ch.length ≤ gs.length ∧ (subM gs k ≠ [] → ch = subM gs k))
        (an_test (va_op (va_cb (vs_cons (va_var rfl) vs_nil) (rc_lenLI es)) va_c rv_eqI)) (fun b kk => ?_) (fun b => ?_) ?_
      · have b := of_decide_eq_true b
        have e0 : subM gs k = [] := List.length_eq_zero_iff.mp (by omega)
        have m := emod_range (a := k) (b := (gs.length : Int)) (by omega)
        have hsl := sb ((subM gs k).map V.int)
        have hsd := sd ((subM gs k).map V.int)
        rw [e0] at hsl hsd ⊢
        refine e_app upd_same (va_var rfl) (va_op (va_op (va_var rfl) va_c (rv_ixT hsd rfl)) (va_op (va_cb (vs_cons (va_var rfl) vs_nil) rc_int1) (va_cb (vs_cons (va_op (va_var rfl) va_c (rv_ixT hsd rfl)) vs_nil) (rc_lenLI hsl)) (rv_I (show (0 : Int) < (gs.length : Int) by omega))) (rv_ixL hsl (at_gi m.1 m.2))) (by decide) (kk _ _ ⟨v, _, [gi gs (k % (gs.length : Int))], rfl, by rw [upd_upd]; rfl, by simp, fun x hx => ?_, by rw [List.length_singleton]; omega, fun z => absurd e0 z⟩)
        rw [List.mem_singleton.mp hx]
        exact gi_mem m.1 m.2
      · have b := of_decide_eq_false b
        exact ⟨v, _, subM gs k, rfl, rfl, fun e => b (by rw [e]; rfl), fun x hx => (sub_sub gs k).subset hx, (sub_sub gs k).length_le, fun _ => rfl⟩
      · rintro σ' H' ⟨v, r, ch, rfl, rfl, h1, h2, h3, h4⟩
        exact w_ret (va_var rfl) (rt_new nl (Ex.new nl) upd_same True.intro (q l ch nl h1 h2 h3 h4))
theorem ok_L_best_doors (T : Txt K mg C) (F : Fun K "_law_best_doors" "_law_best_doors" s_L_best_doors f fd) (c_L_some_doors : C8.Cal P w K mg base 1 "_law_some_doors" spSome []) (c_L_cost : C8.Cal P w K mg base 3 "_law_cost" spLCost []) : FnOk P w K mg base CX0 4 f fd ["_law_drawn_here", "_law_count", "_law_most", "_law_digit"] spBestDoors := by
  refine okF F sc_L_best_doors (fun vs H Q E h => h.1) (fun vs H Q E h => ?_) (fun cdv A outer s0 H vs Q E hr h => ?_)
  · obtain ⟨_, d, ps, gs, n, c, k, rfl, _⟩ := h
    rfl
  · obtain ⟨nd, d, ps, gs, n, c, k, rfl, D0, g, hzp, hzg, ⟨U, hU, hUc⟩, q⟩ := h
    refine ⟨_, (pss_cons (ps_set (i := 4) sc_L_best_doors.nd rfl (Or.inl rfl) (pe_lst pa_nil))
      (pss_cons (ps_set (i := 5) sc_L_best_doors.nd rfl (Or.inl rfl) pe_int)
      (pss_cons (ps_for PassesOwn.never rfl (pi_list (pe_ix ix_tup (pv 0) pe_int (fun _ _ => rfl))) (pg_name (i := 6) sc_L_best_doors.nd rfl (Or.inl rfl)) (pss_one (ps_set (i := 5) sc_L_best_doors.nd rfl (Or.inl rfl) (pe_op op_mul (pv 5) pe_int))))
      (pss_cons (ps_for PassesOwn.never rfl (pi_range2 (by rfl) T.range (pa_cons pe_int (pa_cons (pv 5) pa_nil))) (pg_name (i := 7) sc_L_best_doors.nd rfl (Or.inl rfl)) (pss_cons (ps_set (i := 8) sc_L_best_doors.nd rfl (Or.inl rfl) (C8.pe_c c_L_some_doors hr (by decide) (by rfl) (pa_cons (pv 0) (pa_cons (pv 7) pa_nil))))
        (pss_one (ps_if (PW.pt (pw_and (pt_cmpR op_le (pe_callB call_len_seq (by rfl) T.len bt_len (pa_cons (pv 8) pa_nil)) (pv 1) (nomark _)) (pw_and1 (pt_cmpR op_eq (C8.pe_c c_L_cost hr (by decide) (by rfl) (pa_cons (pe_ix ix_tup (pv 0) pe_int (fun _ _ => rfl)) (pa_cons (pv 8) pa_nil))) (pv 2) (nomark _))))) (pss_one (ps_expr (pe_bm PySem.F.plainAttrs_list PySem.F.slot_list_append PySem.F.type_list_append mt_append (pv 4) (pa_cons (pv 8) pa_nil)))) pss_nil))))
      (pss_one (ps_ret (pe_ix ix_list (pv 4) (pe_op op_mod (pe_callTy call_int1 (by rfl) T.int bt_int (pa_cons (pv 3) pa_nil)) (pe_callB call_len_seq (by rfl) T.len bt_len (pa_cons (pv 4) pa_nil))) (fun _ _ => rfl)))))))), ?_⟩
    obtain ⟨a0, b0, hd, ha0, hb0⟩ := id D0
    have pw := pow_le gs.length hzg
    have pw1 := pow_pos2 gs.length
    refine w_asgN (mk_lst vs_nil (by show 0 ≤ 100000; decide)) (fun l nl => ?_)
    refine w_asg va_c ?_
    have e1 : Nw H (upd H l (.lst [])) := (Nw.refl H).lst nl
    have hl1 : (upd H l (.lst [])) l = some (.lst []) := upd_same
    generalize (upd H l (.lst [])) = H1 at e1 hl1
    refine w_forL (va_op (va_var rfl) va_c (rv_ixT (SqT.of (e1.1 _ _ hd)) rfl)) (SqL.of (e1.1 _ _ hb0)) (fun i σ' H' => ∃ v : Option V, σ' = [some (.ref d), some (.int n), some (.int c), some (.int k), some (.ref l), some (.int (2 ^ i)), v, none, none] ∧ H' = H1)
      ⟨none, rfl, rfl⟩ (fun i σ' H' _ ⟨_, _, e⟩ => by rw [e]; exact SqL.of (e1.1 _ _ hb0)) ?_ ?_
    · rintro i x σ' H' hx ⟨v, rfl, rfl⟩
      refine e_asg (va_is (va_op (va_var rfl) va_c (rv_I (.inr (by decide)))) (congrArg V.int (Int.pow_succ 2 i).symm)) ?_
      exact ⟨_, rfl, rfl⟩
    · rintro σ' H' ⟨v, rfl, rfl⟩
      rw [List.length_map]
      refine w_forR2 (m := 2 ^ gs.length) (vs_cons va_c (vs_cons (va_var rfl) vs_nil)) ⟨by omega, by omega⟩ (fun i σ' H2 => ∃ (v1 v2 v3 : Option V) (as : List Addr), σ' = [some (.ref d), some (.int n), some (.int c), some (.int k), some (.ref l), some (.int (2 ^ gs.length)), v1, v2, v3] ∧ Nw H H2 ∧ H2 l = some (.lst (as.map V.ref)) ∧ as.length ≤ i ∧ (∀ a ∈ as, a ≠ l ∧ DL H H2 gs a) ∧ ∀ r : Int, 1 ≤ r → r < 1 + (i : Int) → IsSet gs n (subM gs r) → cost ps (subM gs r) = c → as ≠ [])
        ⟨v, none, none, [], rfl, e1, hl1, Nat.le_refl _, (fun a ha => nomatch ha), fun r h1 h2 => by omega⟩ ?_ ?_
      · rintro i σ' H2 hi ⟨v1, v2, v3, as, rfl, e2, hl2, hlen, hgood, hall⟩
        refine r_seq (r_asg (r_call ((vs_cons (va_var rfl) (vs_cons (va_var rfl) vs_nil)).go ?_)))
        refine ⟨e2.nd nd, d, ps, gs, 1 + (i : Int), rfl, D0.ex e2.1, g.ne, by omega, fun p ch np hne hmem hle hsub => ?_⟩
        have ec := hsub (sub_ne gs _ (by omega) hi)
        refine r_nm ?_
        have e3 := e2.lst (xs := ch.map V.int) np
        have hp : (upd H2 p (.lst (ch.map V.int))) p = some (.lst (ch.map V.int)) := upd_same
        have npl : p ≠ l := fun e => by rw [e, hl2] at np; cases np
        have hl3 : (upd H2 p (.lst (ch.map V.int))) l = some (.lst (as.map V.ref)) := Ex.new np _ _ hl2
        have hgood3 : ∀ a ∈ as, a ≠ l ∧ DL H (upd H2 p (.lst (ch.map V.int))) gs a := fun a ha => by
          obtain ⟨z1, z2, ch', z3, z4⟩ := hgood a ha
          exact ⟨z1, z2, ch', Ex.new np _ _ z3, z4⟩
        have np0 := fresh_back e2.1 np
        generalize (upd H2 p (.lst (ch.map V.int))) = H3 at e3 hp hl3 hgood3
        have hin : InL ps ch := fun x hx => g.inn (hmem x hx)
        refine e_when (an_and (an_test (va_op (va_cb (vs_cons (va_var rfl) vs_nil) (rc_lenLI (SqL.of hp))) (va_var rfl) rv_I0)) (fun _ => an_test (va_op (va_call (vs_cons (va_op (va_var rfl) va_c (rv_ixT (SqT.of (e3.1 _ _ hd)) rfl)) (vs_cons (va_var rfl) vs_nil)) (fun Q E k' => ⟨e3.nd nd, a0, ps, p, ch, rfl, e3.1 _ _ ha0, by omega, hp, by omega, hin, hne, k'⟩)) (va_var rfl) rv_eqI))) (fun b => ?_) (fun b => ?_)
        · refine e_app hl3 (va_var rfl) (va_var rfl) (by rw [List.length_map]; omega) ?_
          refine ⟨_, _, _, as ++ [p], rfl, e3.set nl hl3, by rw [upd_same, List.map_append]; rfl, by rw [List.length_append, List.length_singleton]; omega, fun a ha => ?_, fun r _ _ _ _ => by simp⟩
          rcases List.mem_append.mp ha with h | h
          · obtain ⟨z1, z2, ch', z3, z4⟩ := hgood3 a h
            exact ⟨z1, z2, ch', by rw [upd_ne z1]; exact z3, z4⟩
          · rw [List.mem_singleton.mp h]
            exact ⟨npl, np0, ch, by rw [upd_ne npl]; exact hp, hne, hmem, hle⟩
        · refine ⟨_, _, _, as, rfl, e3, hl3, by omega, hgood3, fun r r1 r2 h1 h2 => ?_⟩
          by_cases er : r < 1 + (i : Int)
          · exact hall r r1 er h1 h2
          · have er : r = 1 + (i : Int) := by omega
            subst er
            rw [← ec] at h1 h2
            rw [decide_eq_true h1.few, decide_eq_true h2] at b
            cases b
      · rintro σ' H2 ⟨v1, v2, v3, as, rfl, e2, hl2, hlen, hgood, hall⟩
        obtain ⟨r, r1, r2, er⟩ := set_code g hU
        have hne : as ≠ [] := hall r r1 (by omega) (by rw [er]; exact hU) (by rw [er]; exact hUc)
        have hal : 0 < as.length := List.length_pos_iff.mpr hne
        have m := emod_range (a := k) (b := (as.length : Int)) (by omega)
        obtain ⟨j, hj⟩ : ∃ j : Nat, k % (as.length : Int) = (j : Int) := ⟨(k % (as.length : Int)).toNat, by omega⟩
        have hjl : j < as.length := by omega
        have ha : as[j]? = some as[j] := List.getElem?_eq_getElem hjl
        generalize as[j] = a at ha
        obtain ⟨z1, z2, ch, z3, z4, z5, z6⟩ := hgood a (List.mem_of_getElem? ha)
        have sl := SqL.of (K := K) hl2
        refine w_ret (va_op (va_var rfl) (va_is (va_op (va_cb (vs_cons (va_var rfl) vs_nil) rc_int1) (va_is (va_cb (vs_cons (va_var rfl) vs_nil) (rc_lenL sl)) (by rw [List.length_map])) (rv_I (show (0 : Int) < (as.length : Int) by omega))) (congrArg V.int hj)) (rv_ixL sl (refs_at ha))) (rt_nw e2 (q a H2 ch e2 z2 z3 z4 z5 z6))
end
end Fp

/-! ## E7 -/
set_option Elab.async false
set_option linter.all false
set_option maxRecDepth 100000
set_option maxHeartbeats 4000000
namespace Fp
open PySem L2 Fv
open Evl (Ex Ex.refl Ex.trans Ex.new fresh_back ex_rd ex_l ex_t)
open Fw
local macro_rules | `(tactic| walk_at "va") => `(tactic| first
  | with_reducible exact va_c
  | ((with_reducible apply va_var); exact rfl)
  | with_reducible exact vs_nil
  | ((with_reducible apply vs_cons) <;> walk_at "va")
  | ((with_reducible apply va_op) <;> walk_at "va")
  | ((with_reducible apply va_un) <;> walk_at "va")
  | ((with_reducible apply va_cb) <;> walk_at "va")
  | ((with_reducible apply va_call) <;> walk_at "va")
  | ((with_reducible apply an_test) <;> walk_at "va")
  | ((with_reducible apply an_B) <;> walk_at "va")
  | ((with_reducible apply an_not) <;> walk_at "va")
  | ((with_reducible apply va_chain) <;> walk_at "va")
  | ((with_reducible apply mk_lst) <;> first | walk_at "va" | (show _ ≤ 100000; decide))
  | ((with_reducible apply mk_tup) <;> first | walk_at "va" | (show _ ≤ 100000; decide))
  | ((with_reducible apply mk_cb) <;> walk_at "va")
  | ((with_reducible apply mk_call) <;> walk_at "va")
  | with_reducible exact rv_I0
  | with_reducible exact rv_eqI
  | with_reducible exact rv_neI
  | with_reducible exact ru_neg
  | with_reducible exact rc_int1
  | with_reducible exact rc_abs
  | with_reducible exact rc_max2
  | with_reducible exact rc_min2
  | ((with_reducible apply rc_sum); assumption)
  | ((with_reducible apply rc_lenLI); assumption)
  | ((with_reducible apply rc_lenTI); assumption)
  | ((with_reducible apply rc_lenL); assumption)
  | ((with_reducible apply rc_lenT); assumption)
  | ((with_reducible apply rv_ixL) <;> assumption)
  | ((with_reducible apply rv_ixT) <;> assumption)
  | ((with_reducible apply rv_ixSL) <;> assumption)
  | ((with_reducible apply rv_ixST) <;> assumption)
  | ((with_reducible apply rv_inL); assumption)
  | ((with_reducible apply rv_inT); assumption)
  | ((with_reducible apply rv_ninL); assumption)
  | ((with_reducible apply rv_ninT); assumption)
  | ((with_reducible apply rn_listL); assumption)
  | ((with_reducible apply rn_listT); assumption)
  | ((with_reducible apply rn_tupleL); assumption)
  | assumption)
/-! ### the greatest costs by number -/
section
variable {P : Program} {w : World} {K : PySem.W.Frag} {mg : Str → Option Value} {base : Heap} {C f : Addr} {fd : FuncData}
theorem ok_L_best (T : Txt K mg C) (F : Fun K "_law_best" "_law_best" s_L_best f fd) (c_L_cost : C8.Cal P w K mg base 3 "_law_cost" spLCost []) : FnOk P w K mg base CX0 4 f fd ["_law_prices", "_law_gates"] spBest := by
  refine okF F sc_L_best (fun vs H Q E h => h.1) (fun vs H Q E h => ?_) (fun cdv A outer s0 H vs Q E hr h => ?_)
  · obtain ⟨_, a, b, ps, gs, rfl, _⟩ := h
    rfl
  · obtain ⟨nd, a, b, ps, gs, rfl, ha, hb, g, hzp, hzg, q⟩ := h
    refine ⟨_, (pss_cons (ps_set (i := 2) sc_L_best.nd rfl (Or.inl rfl) (pe_op op_rep (pe_lst (pa_cons pe_int pa_nil)) (pe_op op_add (pe_callB call_len_seq (by rfl) T.len bt_len (pa_cons (pv 1) pa_nil)) pe_int)))
      (pss_cons (ps_set (i := 3) sc_L_best.nd rfl (Or.inl rfl) pe_int)
      (pss_cons (ps_for PassesOwn.never rfl (pi_list (pv 1)) (pg_name (i := 4) sc_L_best.nd rfl (Or.inl rfl)) (pss_one (ps_set (i := 3) sc_L_best.nd rfl (Or.inl rfl) (pe_op op_mul (pv 3) pe_int))))
      (pss_cons (ps_for PassesOwn.never rfl (pi_range2 (by rfl) T.range (pa_cons pe_int (pa_cons (pv 3) pa_nil))) (pg_name (i := 5) sc_L_best.nd rfl (Or.inl rfl)) (pss_cons (ps_set (i := 6) sc_L_best.nd rfl (Or.inl rfl) (pv 5))
        (pss_cons (ps_set (i := 7) sc_L_best.nd rfl (Or.inl rfl) (pe_lst pa_nil))
        (pss_cons (ps_for PassesOwn.never rfl (pi_list (pv 1)) (pg_name (i := 4) sc_L_best.nd rfl (Or.inl rfl)) (pss_cons (ps_if (pt_cmpR op_eq (pe_op op_mod (pe_callTy call_int1 (by rfl) T.int bt_int (pa_cons (pv 6) pa_nil)) pe_int) pe_int (nomark _)) (pss_one (ps_expr (pe_bm PySem.F.plainAttrs_list PySem.F.slot_list_append PySem.F.type_list_append mt_append (pv 7) (pa_cons (pv 4) pa_nil)))) pss_nil)
          (pss_one (ps_set (i := 6) sc_L_best.nd rfl (Or.inl rfl) (pe_op op_fdiv (pv 6) pe_int)))))
        (pss_one (ps_asg (pe_callB (call_max2 rfl) (by rfl) T.max bt_max (pa_cons (pe_ix ix_list (pv 2) (pe_callB call_len_seq (by rfl) T.len bt_len (pa_cons (pv 7) pa_nil)) (fun _ _ => rfl)) (pa_cons (C8.pe_c c_L_cost hr (by decide) (by rfl) (pa_cons (pv 0) (pa_cons (pv 7) pa_nil))) pa_nil))) (pg_sub (pv 2) (pe_callB call_len_seq (by rfl) T.len bt_len (pa_cons (pv 7) pa_nil)) set_list)))))))
      (pss_cons (ps_for PassesOwn.never rfl (pi_range2 (by rfl) T.range (pa_cons pe_int (pa_cons (pe_callB call_len_seq (by rfl) T.len bt_len (pa_cons (pv 2) pa_nil)) pa_nil))) (pg_name (i := 8) sc_L_best.nd rfl (Or.inl rfl)) (pss_one (ps_asg (pe_callB (call_max2 rfl) (by rfl) T.max bt_max (pa_cons (pe_ix ix_list (pv 2) (pv 8) (fun _ _ => rfl)) (pa_cons (pe_ix ix_list (pv 2) (pe_op op_sub (pv 8) pe_int) (fun _ _ => rfl)) pa_nil))) (pg_sub (pv 2) (pv 8) set_list))))
      (pss_one (ps_ret (pv 2)))))))), ?_⟩
    have pw := pow_le gs.length hzg
    have pw1 := pow_pos2 gs.length
    refine w_rep va_c (n := gs.length + 1) (fun l0 n0 => va_op (va_cb (vs_cons (va_var rfl) vs_nil) (rc_lenLI (SqL.of (Ex.new n0 _ _ hb)))) va_c rv_I0) (by omega) (fun l l0 n0 nl => ?_)
    have e1 : Nw H (upd (upd H l0 (.lst [V.int 0])) l (.lst (List.replicate (gs.length + 1) (V.int 0)))) := ((Nw.refl H).lst n0).lst nl
    have hl1 : (upd (upd H l0 (.lst [V.int 0])) l (.lst (List.replicate (gs.length + 1) (V.int 0)))) l = some (.lst ((List.replicate (gs.length + 1) (0 : Int)).map V.int)) := by rw [upd_same, List.map_replicate]
    have nl0 : H l = none := fresh_back (Ex.new n0) nl
    generalize (upd (upd H l0 (.lst [V.int 0])) l (.lst (List.replicate (gs.length + 1) (V.int 0)))) = H1 at e1 hl1
    have nal : a ≠ l := ne_of_none ha nl0
    have nbl : b ≠ l := ne_of_none hb nl0
    refine w_asg va_c ?_
    refine w_forL (va_var rfl) (SqL.of (e1.1 _ _ hb)) (fun i σ' H' => ∃ v : Option V, σ' = [some (.ref a), some (.ref b), some (.ref l), some (.int (2 ^ i)), v, none, none, none, none] ∧ H' = H1)
      ⟨none, rfl, rfl⟩ (fun i σ' H' _ ⟨_, _, e⟩ => by rw [e]; exact SqL.of (e1.1 _ _ hb)) ?_ ?_
    · rintro i x σ' H' hx ⟨v, rfl, rfl⟩
      refine e_asg (va_is (va_op (va_var rfl) va_c (rv_I (.inr (by decide)))) (congrArg V.int (Int.pow_succ 2 i).symm)) ?_
      exact ⟨_, rfl, rfl⟩
    · rintro σ' H' ⟨v, rfl, rfl⟩
      rw [List.length_map]
      refine w_forR2 (m := 2 ^ gs.length) (vs_cons va_c (vs_cons (va_var rfl) vs_nil)) ⟨by omega, by omega⟩ (fun i σ' H2 => ∃ (v1 v2 v3 v4 v5 : Option V) (bs : List Int), σ' = [some (.ref a), some (.ref b), some (.ref l), some (.int (2 ^ gs.length)), v1, v2, v3, v4, v5] ∧ Nw H H2 ∧ H2 l = some (.lst (bs.map V.int)) ∧ Tab ps gs bs (1 + (i : Int)))
        ⟨v, none, none, none, none, _, rfl, e1, hl1, by rw [show (1 : Int) + ((0 : Nat) : Int) = 1 from rfl]; exact tab_start ps gs⟩ ?_ ?_
      · rintro i σ' H2 hi ⟨v1, v2, v3, v4, v5, bs, rfl, e2, hl2, tb⟩
        refine w_asg (va_var rfl) ?_
        refine w_asgN (mk_lst vs_nil (by show 0 ≤ 100000; decide)) (fun p np => ?_)
        have npl : l ≠ p := ne_of_none hl2 np
        have np0 := fresh_back e2.1 np
        have hb2 : ∀ xs, SqL K (upd H2 p (.lst xs)) b (gs.map V.int) := fun xs => SqL.of (Ex.new np _ _ (e2.1 _ _ hb))
        refine w_forL (va_var rfl) (hb2 _) (fun j σ' H' => ∃ v : Option V, σ' = [some (.ref a), some (.ref b), some (.ref l), some (.int (2 ^ gs.length)), v, some (.int (1 + (i : Int))), some (.int (halves j (1 + (i : Int)))), some (.ref p), v5] ∧ H' = upd H2 p (.lst ((subM (gs.take j) (1 + (i : Int))).map V.int)))
          ⟨v1, rfl, rfl⟩ (fun j σ' H' _ ⟨_, _, e⟩ => by rw [e]; exact hb2 _) ?_ ?_
        · rintro j x σ' H' hx ⟨v, rfl, rfl⟩
          obtain ⟨y, hy, rfl⟩ := ints_map hx
          have est := sub_take (r := 1 + (i : Int)) hy
          have hlen : (subM (gs.take j) (1 + (i : Int))).length ≤ 1000 := by
            have h1 := (sub_sub (gs.take j) (1 + (i : Int))).length_le
            have h3 : (gs.take j).length ≤ gs.length := by rw [List.length_take]; omega
            omega
          refine w_whenC (fun σ' H' => σ' = [some (.ref a), some (.ref b), some (.ref l), some (.int (2 ^ gs.length)), some (.int y), some (.int (1 + (i : Int))), some (.int (halves j (1 + (i : Int)))), some (.ref p), v5] ∧ H' = upd H2 p (.lst ((subM (gs.take (j + 1)) (1 + (i : Int))).map V.int)))
            (an_test (va_op (va_op (va_cb (vs_cons (va_var rfl) vs_nil) rc_int1) va_c (rv_I (show (0 : Int) < 2 by decide))) va_c rv_eqI)) (fun b kk => ?_) (fun b => ?_) ?_
          · have b := of_decide_eq_true b
            refine e_app upd_same (va_var rfl) (va_var rfl) (by rw [List.length_map]; omega) (kk _ _ ⟨rfl, ?_⟩)
            rw [upd_upd, est, if_pos b, List.map_append]
            rfl
          · have b := of_decide_eq_false b
            refine ⟨rfl, ?_⟩
            rw [est, if_neg b, List.append_nil]
          · rintro σ' H' ⟨rfl, rfl⟩
            refine e_asg (va_op (va_var rfl) va_c (rv_I (cdivP (by decide) (by decide)))) ?_
            refine ⟨some (.int y), ?_, rfl⟩
            rw [halves_succ]
            rfl
        · rintro σ' H' ⟨v, rfl, rfl⟩
          rw [List.length_map, List.take_length]
          have hne := sub_ne gs (1 + (i : Int)) (by omega) hi
          have hsub := sub_sub gs (1 + (i : Int))
          have e3 := e2.lst (xs := (subM gs (1 + (i : Int))).map V.int) np
          have hp : (upd H2 p (.lst ((subM gs (1 + (i : Int))).map V.int))) p = some (.lst ((subM gs (1 + (i : Int))).map V.int)) := upd_same
          have hl3 : (upd H2 p (.lst ((subM gs (1 + (i : Int))).map V.int))) l = some (.lst (bs.map V.int)) := Ex.new np _ _ hl2
          generalize (upd H2 p (.lst ((subM gs (1 + (i : Int))).map V.int))) = H3 at e3 hp hl3
          have step := fun bv => tab_step (m := 1 + (i : Int)) (b := bv) g tb (by omega) hi
          have hsl := hsub.length_le
          have hin : InL ps (subM gs (1 + (i : Int))) := fun x hx => g.inn (hsub.subset hx)
          generalize subM gs (1 + (i : Int)) = ch at hne hp step hsl hin
          have hbl := tb.len
          have hc : bs[ch.length]? = some bs[ch.length] := List.getElem?_eq_getElem (by omega)
          generalize bs[ch.length]'_ = bv at hc
          refine e_setL hl3 (va_cb (vs_cons (va_op (va_var rfl) (va_cb (vs_cons (va_var rfl) vs_nil) (rc_lenLI (SqL.of hp))) (rv_ixL (SqL.of hl3) (at_int hc))) (vs_cons (va_call (vs_cons (va_var rfl) (vs_cons (va_var rfl) vs_nil)) (fun Q E k' => ⟨e3.nd nd, a, ps, p, ch, rfl, e3.1 _ _ ha, by omega, hp, by omega, hin, hne, k'⟩)) vs_nil)) rc_max2) (va_var rfl) (va_cb (vs_cons (va_var rfl) vs_nil) (rc_lenLI (SqL.of hp))) (by rw [List.length_map]; omega) ?_
          refine ⟨_, _, _, _, _, _, rfl, e3.set nl0 hl3, by rw [upd_same, ← List.map_set], ?_⟩
          have e : 1 + ((i + 1 : Nat) : Int) = 1 + (i : Int) + 1 := by omega
          rw [e]
          exact step bv hc
      · rintro σ' H2 ⟨v1, v2, v3, v4, v5, bs, rfl, e2, hl2, tb⟩
        have t2 := tab2_start g tb (by omega)
        have hbl := tb.len
        refine w_forR2 (m := (bs.length : Int)) (vs_cons va_c (vs_cons (va_cb (vs_cons (va_var rfl) vs_nil) (rc_lenLI (SqL.of hl2))) vs_nil)) ⟨by omega, by omega⟩ (fun i σ' H' => ∃ (v : Option V) (bs : List Int), σ' = [some (.ref a), some (.ref b), some (.ref l), some (.int (2 ^ gs.length)), v1, v2, v3, v4, v] ∧ Nw H H' ∧ H' l = some (.lst (bs.map V.int)) ∧ Tab2 ps gs bs (i + 1))
          ⟨v5, bs, rfl, e2, hl2, t2⟩ ?_ ?_
        · rintro i σ' H' hi ⟨v, bs, rfl, e3, hl3, t3⟩
          have hbl3 := t3.len
          have h1 : bs[i + 1]? = some bs[i + 1] := List.getElem?_eq_getElem (by omega)
          generalize bs[i + 1]'_ = b1 at h1
          have h0 : bs[i]? = some bs[i] := List.getElem?_eq_getElem (by omega)
          generalize bs[i]'_ = b0 at h0
          refine e_setL (k := i + 1) hl3 (va_cb (vs_cons (va_op (va_var rfl) (va_var rfl) (rv_ixL (SqL.of hl3) (at_nat (n := i + 1) (by omega) (by rw [List.getElem?_map, h1]; rfl)))) (vs_cons (va_op (va_var rfl) (va_op (va_var rfl) va_c rv_I0) (rv_ixL (SqL.of hl3) (at_nat (n := i) (by omega) (by rw [List.getElem?_map, h0]; rfl)))) vs_nil)) rc_max2) (va_var rfl) (va_is (va_var rfl) (congrArg V.int (by omega))) (by rw [List.length_map]; omega) ?_
          exact ⟨_, _, rfl, e3.set nl0 hl3, by rw [upd_same, ← List.map_set], tab2_step t3 h0 h1⟩
        · rintro σ' H' ⟨v, bs', rfl, e3, hl3, t3⟩
          exact w_ret (va_var rfl) (rt_nw e3 (q l H' bs' e3 nl0 hl3 t3.len fun n c T hn hB => tab2_end g hn t3 (by omega) hB))
end
end Fp

/-! ## E8 -/
set_option Elab.async false
set_option linter.all false
set_option maxRecDepth 100000
set_option maxHeartbeats 4000000
namespace Fp
open PySem L2 Fv
open Evl (Ex Ex.refl Ex.trans Ex.new fresh_back ex_rd ex_l ex_t)
open Fw
local macro_rules | `(tactic| walk_at "va") => `(tactic| first
  | with_reducible exact va_c
  | ((with_reducible apply va_var); exact rfl)
  | with_reducible exact vs_nil
  | ((with_reducible apply vs_cons) <;> walk_at "va")
  | ((with_reducible apply va_op) <;> walk_at "va")
  | ((with_reducible apply va_un) <;> walk_at "va")
  | ((with_reducible apply va_cb) <;> walk_at "va")
  | ((with_reducible apply va_call) <;> walk_at "va")
  | ((with_reducible apply an_test) <;> walk_at "va")
  | ((with_reducible apply an_B) <;> walk_at "va")
  | ((with_reducible apply an_not) <;> walk_at "va")
  | ((with_reducible apply va_chain) <;> walk_at "va")
  | ((with_reducible apply mk_lst) <;> first | walk_at "va" | (show _ ≤ 100000; decide))
  | ((with_reducible apply mk_tup) <;> first | walk_at "va" | (show _ ≤ 100000; decide))
  | ((with_reducible apply mk_cb) <;> walk_at "va")
  | ((with_reducible apply mk_call) <;> walk_at "va")
  | with_reducible exact rv_I0
  | with_reducible exact rv_eqI
  | with_reducible exact rv_neI
  | with_reducible exact ru_neg
  | with_reducible exact rc_int1
  | with_reducible exact rc_abs
  | with_reducible exact rc_max2
  | with_reducible exact rc_min2
  | ((with_reducible apply rc_sum); assumption)
  | ((with_reducible apply rc_lenLI); assumption)
  | ((with_reducible apply rc_lenTI); assumption)
  | ((with_reducible apply rc_lenL); assumption)
  | ((with_reducible apply rc_lenT); assumption)
  | ((with_reducible apply rv_ixL) <;> assumption)
  | ((with_reducible apply rv_ixT) <;> assumption)
  | ((with_reducible apply rv_ixSL) <;> assumption)
  | ((with_reducible apply rv_ixST) <;> assumption)
  | ((with_reducible apply rv_inL); assumption)
  | ((with_reducible apply rv_inT); assumption)
  | ((with_reducible apply rv_ninL); assumption)
  | ((with_reducible apply rv_ninT); assumption)
  | ((with_reducible apply rn_listL); assumption)
  | ((with_reducible apply rn_listT); assumption)
  | ((with_reducible apply rn_tupleL); assumption)
  | assumption)
/-! ### spoilt certificates -/
def Anyi (te : TE) (σ : L2.St) (H : Hp) : Prop := ∀ Q : VK, (∀ v : Int, Q (.int v) H) → te σ H Q
/-- a new list of at most so many ints -/
def Mki (te : TE) (σ : L2.St) (H : Hp) (n : Nat) : Prop := ∀ Q : VK, (∀ (q : Addr) (H2 : Hp) (ch : List Int), Nw H H2 → H q = none → H2 q = some (.lst (ch.map V.int)) → ch.length ≤ n → Q (.ref q) H2) → te σ H Q
theorem cut_ints (ch : List Int) (lo hi : Option Int) : ∃ ys : List Int, cutV (ch.map V.int) lo hi = ys.map V.int ∧ ys.length ≤ ch.length := by
  unfold cutV
  rw [← List.map_drop, ← List.map_take]
  exact ⟨_, rfl, by rw [List.length_take, List.length_drop]; omega⟩
section
variable {K : PySem.W.Frag} {σ : L2.St} {H : Hp} {te ta tb : TE} {tl th : TO} {a : Addr} {ch : List Int} {n m : Nat} {lo hi : Option Int} {v : Int} {ts : TA}
theorem an_val (h : Val te σ H (.int v)) : Anyi te σ H := fun Q q => h Q (q v)
theorem mi_mk {ys : List Int} (h : Mkn te σ H (.lst (ys.map V.int))) (hl : ys.length ≤ n) : Mki te σ H n := fun Q q => h Q fun p np => q p _ ys ((Nw.refl H).lst np) np upd_same hl
theorem mi_sl (h : Val te σ H (.ref a)) (ha : H a = some (.lst (ch.map V.int))) (hl : ∀ Q : Option Int → Hp → Prop, Q lo H → tl σ H Q) (hh : ∀ Q : Option Int → Hp → Prop, Q hi H → th σ H Q) : Mki (tSl (rSlL K) te tl th) σ H ch.length := by
  obtain ⟨ys, e, l⟩ := cut_ints ch lo hi
  have q := mk_slice (K := K) h hl hh (SqL.of ha)
  rw [e] at q
  exact mi_mk q l
theorem mi_rev (h : Val te σ H (.ref a)) (ha : H a = some (.lst (ch.map V.int))) : Mki (tRevL K te) σ H ch.length := by
  have q := mk_rev (K := K) h (SqL.of ha)
  rw [← List.map_reverse] at q
  exact mi_mk q (by rw [List.length_reverse]; exact Nat.le_refl _)
theorem mi_nil : Mki (tLst tNil) σ H 0 := mi_mk (ys := []) (mk_lst vs_nil (by decide)) (Nat.le_refl _)
theorem mi_one (h : Anyi te σ H) : Mki (tLst (tCons te tNil)) σ H 1 := fun Q q => r_lst (r_cons (h _ fun v => r_nil ⟨(by show 1 ≤ sizeLine; decide), fun p np => q p _ [v] ((Nw.refl H).lst np) np upd_same (Nat.le_refl _)⟩))
theorem mi_cat (h1 : Mki ta σ H n) (h2 : ∀ H', Nw H H' → Mki tb σ H' m) (hz : n + m ≤ 100000) : Mki (tOp rCat ta tb) σ H (n + m) := fun Q q => r_op (h1 _ fun p H1 xs n1 np hp hl => h2 H1 n1 _ fun p2 H2 ys n2 np2 hp2 hl2 =>
  ⟨p, p2, _, _, rfl, rfl, n2.1 _ _ hp, hp2, by rw [List.length_map, List.length_map]; exact Nat.le_trans (show xs.length + ys.length ≤ 100000 by omega) (by decide), fun r nr => q r _ (xs ++ ys) ((n1.trans n2).lst nr) (fresh_back (n1.trans n2).1 nr) (by rw [upd_same, List.map_append]) (by rw [List.length_append]; omega)⟩)
theorem mi_catV (h1 : Val ta σ H (.ref a)) (ha : H a = some (.lst (ch.map V.int))) (h2 : Mki tb σ H m) (hz : ch.length + m ≤ 100000) : Mki (tOp rCat ta tb) σ H (ch.length + m) := fun Q q => r_op (h1 _ (h2 _ fun p2 H2 ys n2 np2 hp2 hl2 =>
  ⟨a, p2, _, _, rfl, rfl, n2.1 _ _ ha, hp2, by rw [List.length_map, List.length_map]; exact Nat.le_trans (show ch.length + ys.length ≤ 100000 by omega) (by decide), fun r nr => q r _ (ch ++ ys) (n2.lst nr) (fresh_back n2.1 nr) (by rw [upd_same, List.map_append]) (by rw [List.length_append]; omega)⟩))
theorem mi_sort (h : Mki ta σ H n) : Mki (tCB (rSortedI K) (tCons ta tNil)) σ H n := fun Q q => r_cb (r_cons (h _ fun p H1 xs n1 np hp hl => r_nil ⟨p, xs, rfl, SqL.of hp, fun ys p2 pm asc np2 => q p2 _ ys (n1.lst np2) (fresh_back n1.1 np2) upd_same (by rw [pm.length_eq]; exact hl)⟩))
theorem mi_up (h : Mki te σ H n) (hm : n ≤ m) : Mki te σ H m := fun Q q => h Q fun p H2 ch a b c d => q p H2 ch a b c (Nat.le_trans d hm)
theorem w_retI {D : Ends} {H0 : Hp} {Q : VK} (h : Mki te σ H n) (k : ∀ (q : Addr) (H2 : Hp) (ch : List Int), Nw H H2 → H q = none → H2 q = some (.lst (ch.map V.int)) → ch.length ≤ n → D.rt (.ref q) H2) : tRet te D σ H := h _ k
theorem po_v (h : Val te σ H (.int v)) : ∀ Q : Option Int → Hp → Prop, Q (some v) H → tPart te σ H Q := po_s h
end
def oddL (n g k : Int) : List Int := [-1, n, n + 5, k / 7 % n, g - n, 3 * n, 10 ^ (9 : Int).toNat]
def spStrange : Sp := fun vs H Q _ => ND H ∧ ∃ d ps gs k, vs = [.ref d, .int k] ∧ Dra H d ps gs ∧ Good ps gs ∧ ∀ v : Int, Q (.int v) H
def spSpoilInts : Sp := fun vs H Q _ => ND H ∧ ∃ (d : Addr) (ps gs : List Int) (p : Addr) (ch : List Int) (t k : Int), vs = [.ref d, .ref p, .int t, .int k] ∧ Dra H d ps gs ∧ Good ps gs ∧ H p = some (.lst (ch.map V.int)) ∧ ch.length ≤ 1000 ∧
  ∀ (q : Addr) (H2 : Hp) (ch' : List Int), Nw H H2 → H q = none → H2 q = some (.lst (ch'.map V.int)) → ch'.length ≤ 3 * ch.length + 1 → Q (.ref q) H2
section
variable {P : Program} {w : World} {K : PySem.W.Frag} {mg : Str → Option Value} {base : Heap} {C f : Addr} {fd : FuncData}
theorem ok_L_strange (T : Txt K mg C) (F : Fun K "_law_strange" "_law_strange" s_L_strange f fd) : FnOk P w K mg base CX0 1 f fd ["_law_drawn_here", "_law_digit"] spStrange := by
  refine okF F sc_L_strange (fun vs H Q E h => h.1) (fun vs H Q E h => ?_) (fun cdv A outer s0 H vs Q E hr h => ?_)
  · obtain ⟨_, d, ps, gs, k, rfl, _⟩ := h
    rfl
  · obtain ⟨nd, d, ps, gs, k, rfl, ⟨a0, b0, hd, ha0, hb0⟩, g, q⟩ := h
    refine ⟨_, (pss_cons (ps_set (i := 2) sc_L_strange.nd rfl (Or.inl rfl) (pe_callB call_len_seq (by rfl) T.len bt_len (pa_cons (pe_ix ix_tup (pv 0) pe_int (fun _ _ => rfl)) pa_nil)))
      (pss_cons (ps_set (i := 3) sc_L_strange.nd rfl (Or.inl rfl) (pe_op op_mod (pe_callTy call_int1 (by rfl) T.int bt_int (pa_cons (pe_op op_fdiv (pv 1) pe_int) pa_nil)) (pv 2)))
      (pss_one (ps_ret (pe_ix ix_list (pe_lst (pa_cons (pe_un un_neg pe_int) (pa_cons (pv 2) (pa_cons (pe_op op_add (pv 2) pe_int) (pa_cons (pv 3) (pa_cons (pe_op op_sub (pe_ix ix_list (pe_ix ix_tup (pv 0) pe_int (fun _ _ => rfl)) pe_int (fun _ _ => rfl)) (pv 2)) (pa_cons (pe_op op_mul pe_int (pv 2)) (pa_cons (pe_op op_pow pe_int pe_int) pa_nil)))))))) (pe_op op_mod (pe_callTy call_int1 (by rfl) T.int bt_int (pa_cons (pv 1) pa_nil)) pe_int) (fun _ _ => rfl)))))), ?_⟩
    have hl := Good.len g
    have hgl : 0 < gs.length := List.length_pos_iff.mpr g.ne
    have m := emod_range (a := k) (b := 7) (by decide)
    refine w_asg (va_cb (vs_cons (va_op (va_var rfl) va_c (rv_ixT (SqT.of hd) rfl)) vs_nil) (rc_lenLI (SqL.of ha0))) ?_
    refine w_asg (va_op (va_cb (vs_cons (va_op (va_var rfl) va_c (rv_I (cdivP (by decide) (by decide)))) vs_nil) rc_int1) (va_var rfl) (rv_I (show (0 : Int) < (ps.length : Int) by omega))) ?_
    refine r_ret (r_op ((mk_lst (vs := (oddL (ps.length : Int) (gi gs 0) k).map V.int) ?_ (by show 7 ≤ 100000; decide)).go fun p np => ?_))
    · exact vs_cons (va_un va_c ru_neg) (vs_cons (va_var rfl) (vs_cons (va_op (va_var rfl) va_c rv_I0) (vs_cons (va_var rfl) (vs_cons (va_op (va_op (va_op (va_var rfl) va_c (rv_ixT (SqT.of hd) rfl)) va_c (rv_ixL (SqL.of hb0) (at_gi (by omega) (by omega)))) (va_var rfl) rv_I0) (vs_cons (va_op va_c (va_var rfl) (rv_I (.inl (by decide)))) (vs_cons (va_op va_c va_c (rv_I (cpow10 9 (by decide)))) vs_nil))))))
    · refine (va_op (va_cb (vs_cons (va_var rfl) vs_nil) rc_int1) va_c (rv_I (C := fun _ j => 0 < j) (show (0 : Int) < 7 by decide))).go ?_
      exact (rv_ixL (SqL.of upd_same) (at_gi (ns := oddL (ps.length : Int) (gi gs 0) k) m.1 (show k % 7 < ((7 : Nat) : Int) from m.2))).go (rt_val (Ex.new np) (q _))
theorem ok_L_spoil_doors (T : Txt K mg C) (F : Fun K "_law_spoil_doors" "_law_spoil_doors" s_L_spoil_doors f fd) (c_L_strange : C8.Cal P w K mg base 1 "_law_strange" spStrange []) : FnOk P w K mg base CX0 2 f fd ["_law_drawn_here", "_law_chosen", "_law_kind", "_law_digit"] spSpoilInts := by
  refine okF F sc_L_spoil_doors (fun vs H Q E h => h.1) (fun vs H Q E h => ?_) (fun cdv A outer s0 H vs Q E hr h => ?_)
  · obtain ⟨_, d, ps, gs, p, ch, t, k, rfl, _⟩ := h
    rfl
  · obtain ⟨nd, d, ps, gs, p, ch, t, k, rfl, D0, g, hp, hz, q⟩ := h
    obtain ⟨a0, b0, hd, ha0, hb0⟩ := id D0
    refine ⟨_, (pss_cons (ps_if (pt_cmpR op_eq (pe_callB call_len_seq (by rfl) T.len bt_len (pa_cons (pv 1) pa_nil)) pe_int (nomark _)) (pss_one (ps_ret (pe_lst (pa_cons (pe_ix ix_list (pe_ix ix_tup (pv 0) pe_int (fun _ _ => rfl)) pe_int (fun _ _ => rfl)) pa_nil)))) pss_nil)
      (pss_cons (ps_set (i := 4) sc_L_spoil_doors.nd rfl (Or.inl rfl) (pe_op op_mod (pe_callTy call_int1 (by rfl) T.int bt_int (pa_cons (pe_op op_fdiv (pv 3) pe_int) pa_nil)) (pe_callB call_len_seq (by rfl) T.len bt_len (pa_cons (pv 1) pa_nil))))
      (pss_cons (ps_if (pt_cmpR op_eq (pv 2) pe_int (nomark _)) (pss_one (ps_ret (pe_revL (pv 1)))) pss_nil)
      (pss_cons (ps_if (pt_cmpR op_eq (pv 2) pe_int (nomark _)) (pss_one (ps_ret (pe_op op_cat (pe_op op_cat (pe_slice sl_list (pv 1) po_none (po_some (pv 4))) (pe_slice sl_list (pv 1) (po_some (pv 4)) (po_some (pe_op op_add (pv 4) pe_int)))) (pe_slice sl_list (pv 1) (po_some (pv 4)) po_none)))) pss_nil)
      (pss_cons (ps_if (pt_cmpR op_eq (pv 2) pe_int (nomark _)) (pss_one (ps_ret (pe_op op_cat (pe_slice sl_list (pv 1) po_none (po_some (pv 4))) (pe_slice sl_list (pv 1) (po_some (pe_op op_add (pv 4) pe_int)) po_none)))) pss_nil)
      (pss_cons (ps_if (pt_cmpR op_eq (pv 2) pe_int (nomark _)) (pss_one (ps_ret (pe_op op_cat (pv 1) (pe_lst (pa_cons (C8.pe_c c_L_strange hr (by decide) (by rfl) (pa_cons (pv 0) (pa_cons (pv 3) pa_nil))) pa_nil))))) pss_nil)
      (pss_cons (ps_if (pt_cmpR op_eq (pv 2) pe_int (nomark _)) (pss_one (ps_ret (pe_op op_cat (pe_op op_cat (pe_slice sl_list (pv 1) po_none (po_some (pv 4))) (pe_lst (pa_cons (C8.pe_c c_L_strange hr (by decide) (by rfl) (pa_cons (pv 0) (pa_cons (pv 3) pa_nil))) pa_nil))) (pe_slice sl_list (pv 1) (po_some (pe_op op_add (pv 4) pe_int)) po_none)))) pss_nil)
      (pss_cons (ps_if (pt_cmpR op_eq (pv 2) pe_int (nomark _)) (pss_one (ps_ret (pe_callB cr_sortedI (by rfl) T.sorted bt_sorted (pa_cons (pe_op op_cat (pv 1) (pe_lst (pa_cons (pe_ix ix_list (pe_ix ix_tup (pv 0) pe_int (fun _ _ => rfl)) (pe_op op_mod (pe_callTy call_int1 (by rfl) T.int bt_int (pa_cons (pe_op op_fdiv (pv 3) pe_int) pa_nil)) (pe_callB call_len_seq (by rfl) T.len bt_len (pa_cons (pe_ix ix_tup (pv 0) pe_int (fun _ _ => rfl)) pa_nil))) (fun _ _ => rfl)) pa_nil))) pa_nil)))) pss_nil)
      (pss_one (ps_ret (pe_lst pa_nil))))))))))), ?_⟩
    have hgl : 0 < gs.length := List.length_pos_iff.mpr g.ne
    have fin : ∀ {te : TE} {σ : L2.St} {D : Ends} {n : Nat}, D.rt = Rt H Q → n ≤ 3 * ch.length + 1 → Mki te σ H n → tRet te D σ H := fun e hn h => w_retI (H0 := H) (Q := Q) (mi_up h hn) fun q' H2 ch' a b c dd => by rw [e]; exact rt_nw a (q q' H2 ch' a b c dd)
    have str : ∀ {H' : Hp}, Nw H H' → ∀ {σ : L2.St} {v1 v2 : TE} {E : XK}, Val v1 σ H' (.ref d) → Val v2 σ H' (.int k) → Anyi (tCall spStrange [] E (tCons v1 (tCons v2 tNil))) σ H' := fun e σ v1 v2 E h1 h2 => fun Q q => r_call ((vs_cons h1 (vs_cons h2 vs_nil)).go ⟨e.nd nd, d, ps, gs, k, rfl, D0.ex e.1, g, q⟩)
    refine w_when (an_test (va_op (va_cb (vs_cons (va_var rfl) vs_nil) (rc_lenLI (SqL.of hp))) va_c rv_eqI)) (fun b => ?_) (fun b => ?_)
    · exact fin rfl (by omega) (mi_one (an_val (va_op (va_op (va_var rfl) va_c (rv_ixT (SqT.of hd) rfl)) va_c (rv_ixL (SqL.of hb0) (at_gi (by omega) (by omega))))))
    have b := of_decide_eq_false b
    refine w_asg (va_op (va_cb (vs_cons (va_op (va_var rfl) va_c (rv_I (cdivP (by decide) (by decide)))) vs_nil) rc_int1) (va_cb (vs_cons (va_var rfl) vs_nil) (rc_lenLI (SqL.of hp))) (rv_I (show (0 : Int) < (ch.length : Int) by omega))) ?_
    generalize k / 9 % (ch.length : Int) = pl
    refine w_when (an_test (va_op (va_var rfl) va_c rv_eqI)) (fun _ => fin rfl (by omega) (mi_rev (va_var rfl) hp)) (fun _ => ?_)
    refine w_when (an_test (va_op (va_var rfl) va_c rv_eqI)) (fun _ => ?_) (fun _ => ?_)
    · exact fin rfl (by omega) (mi_cat (mi_cat (mi_sl (va_var rfl) hp po_n (po_s (va_var rfl))) (fun H' e => mi_sl (va_var rfl) (e.1 _ _ hp) (po_s (va_var rfl)) (po_s (va_op (va_var rfl) va_c rv_I0))) (by omega)) (fun H' e => mi_sl (va_var rfl) (e.1 _ _ hp) (po_s (va_var rfl)) po_n) (by omega))
    refine w_when (an_test (va_op (va_var rfl) va_c rv_eqI)) (fun _ => ?_) (fun _ => ?_)
    · exact fin rfl (by omega) (mi_cat (mi_sl (va_var rfl) hp po_n (po_s (va_var rfl))) (fun H' e => mi_sl (va_var rfl) (e.1 _ _ hp) (po_s (va_op (va_var rfl) va_c rv_I0)) po_n) (by omega))
    refine w_when (an_test (va_op (va_var rfl) va_c rv_eqI)) (fun _ => ?_) (fun _ => ?_)
    · exact fin rfl (by omega) (mi_catV (va_var rfl) hp (mi_one (str (Nw.refl H) (va_var rfl) (va_var rfl))) (by omega))
    refine w_when (an_test (va_op (va_var rfl) va_c rv_eqI)) (fun _ => ?_) (fun _ => ?_)
    · exact fin rfl (by omega) (mi_cat (mi_cat (mi_sl (va_var rfl) hp po_n (po_s (va_var rfl))) (fun H' e => mi_one (str e (va_var rfl) (va_var rfl))) (by omega)) (fun H' e => mi_sl (va_var rfl) (e.1 _ _ hp) (po_s (va_op (va_var rfl) va_c rv_I0)) po_n) (by omega))
    refine w_when (an_test (va_op (va_var rfl) va_c rv_eqI)) (fun _ => ?_) (fun _ => ?_)
    · have m := emod_range (a := k / 9) (b := (gs.length : Int)) (by omega)
      exact fin rfl (by omega) (mi_sort (mi_catV (va_var rfl) hp (mi_one (an_val (va_op (va_op (va_var rfl) va_c (rv_ixT (SqT.of hd) rfl)) (va_op (va_cb (vs_cons (va_op (va_var rfl) va_c (rv_I (cdivP (by decide) (by decide)))) vs_nil) rc_int1) (va_cb (vs_cons (va_op (va_var rfl) va_c (rv_ixT (SqT.of hd) rfl)) vs_nil) (rc_lenLI (SqL.of hb0))) (rv_I (show (0 : Int) < (gs.length : Int) by omega))) (rv_ixL (SqL.of hb0) (at_gi m.1 m.2))))) (by omega)))
    exact fin rfl (by omega) mi_nil
theorem ok_L_spoil_row (T : Txt K mg C) (F : Fun K "_law_spoil_row" "_law_spoil_row" s_L_spoil_row f fd) (c_L_strange : C8.Cal P w K mg base 1 "_law_strange" spStrange []) : FnOk P w K mg base CX0 2 f fd ["_law_drawn_here", "_law_row", "_law_kind", "_law_digit"] spSpoilInts := by
  refine okF F sc_L_spoil_row (fun vs H Q E h => h.1) (fun vs H Q E h => ?_) (fun cdv A outer s0 H vs Q E hr h => ?_)
  · obtain ⟨_, d, ps, gs, p, ch, t, k, rfl, _⟩ := h
    rfl
  · obtain ⟨nd, d, ps, gs, p, ch, t, k, rfl, D0, g, hp, hz, q⟩ := h
    obtain ⟨a0, b0, hd, ha0, hb0⟩ := id D0
    refine ⟨_, (pss_cons (ps_if (pt_cmpR op_eq (pe_callB call_len_seq (by rfl) T.len bt_len (pa_cons (pv 1) pa_nil)) pe_int (nomark _)) (pss_one (ps_ret (pe_lst (pa_cons (pe_ix ix_list (pe_ix ix_tup (pv 0) pe_int (fun _ _ => rfl)) pe_int (fun _ _ => rfl)) pa_nil)))) pss_nil)
      (pss_cons (ps_set (i := 4) sc_L_spoil_row.nd rfl (Or.inl rfl) (pe_op op_mod (pe_callTy call_int1 (by rfl) T.int bt_int (pa_cons (pe_op op_fdiv (pv 3) pe_int) pa_nil)) (pe_callB call_len_seq (by rfl) T.len bt_len (pa_cons (pv 1) pa_nil))))
      (pss_cons (ps_if (pt_cmpR op_eq (pv 2) pe_int (nomark _)) (pss_one (ps_ret (pe_op op_cat (pe_op op_cat (pe_slice sl_list (pv 1) po_none (po_some (pv 4))) (pe_lst (pa_cons (C8.pe_c c_L_strange hr (by decide) (by rfl) (pa_cons (pv 0) (pa_cons (pv 3) pa_nil))) pa_nil))) (pe_slice sl_list (pv 1) (po_some (pe_op op_add (pv 4) pe_int)) po_none)))) pss_nil)
      (pss_cons (ps_if (pt_cmpR op_eq (pv 2) pe_int (nomark _)) (pss_one (ps_ret (pe_slice sl_list (pv 1) po_none (po_some (pe_un un_neg pe_int))))) pss_nil)
      (pss_cons (ps_if (pt_cmpR op_eq (pv 2) pe_int (nomark _)) (pss_one (ps_ret (pe_op op_cat (pv 1) (pe_lst (pa_cons (pe_ix ix_list (pe_ix ix_tup (pv 0) pe_int (fun _ _ => rfl)) (pe_op op_mod (pe_callTy call_int1 (by rfl) T.int bt_int (pa_cons (pe_op op_fdiv (pv 3) pe_int) pa_nil)) (pe_callB call_len_seq (by rfl) T.len bt_len (pa_cons (pe_ix ix_tup (pv 0) pe_int (fun _ _ => rfl)) pa_nil))) (fun _ _ => rfl)) pa_nil))))) pss_nil)
      (pss_cons (ps_if (pt_cmpR op_eq (pv 2) pe_int (nomark _)) (pss_one (ps_ret (pe_slice sl_list (pv 1) (po_some pe_int) po_none))) pss_nil)
      (pss_cons (ps_if (pt_cmpR op_eq (pv 2) pe_int (nomark _)) (pss_one (ps_ret (pe_revL (pv 1)))) pss_nil)
      (pss_one (ps_ret (pe_lst pa_nil)))))))))), ?_⟩
    have hgl : 0 < gs.length := List.length_pos_iff.mpr g.ne
    have fin : ∀ {te : TE} {σ : L2.St} {D : Ends} {n : Nat}, D.rt = Rt H Q → n ≤ 3 * ch.length + 1 → Mki te σ H n → tRet te D σ H := fun e hn h => w_retI (H0 := H) (Q := Q) (mi_up h hn) fun q' H2 ch' a b c dd => by rw [e]; exact rt_nw a (q q' H2 ch' a b c dd)
    have str : ∀ {H' : Hp}, Nw H H' → ∀ {σ : L2.St} {v1 v2 : TE} {E : XK}, Val v1 σ H' (.ref d) → Val v2 σ H' (.int k) → Anyi (tCall spStrange [] E (tCons v1 (tCons v2 tNil))) σ H' := fun e σ v1 v2 E h1 h2 => fun Q q => r_call ((vs_cons h1 (vs_cons h2 vs_nil)).go ⟨e.nd nd, d, ps, gs, k, rfl, D0.ex e.1, g, q⟩)
    refine w_when (an_test (va_op (va_cb (vs_cons (va_var rfl) vs_nil) (rc_lenLI (SqL.of hp))) va_c rv_eqI)) (fun b => ?_) (fun b => ?_)
    · exact fin rfl (by omega) (mi_one (an_val (va_op (va_op (va_var rfl) va_c (rv_ixT (SqT.of hd) rfl)) va_c (rv_ixL (SqL.of hb0) (at_gi (by omega) (by omega))))))
    have b := of_decide_eq_false b
    refine w_asg (va_op (va_cb (vs_cons (va_op (va_var rfl) va_c (rv_I (cdivP (by decide) (by decide)))) vs_nil) rc_int1) (va_cb (vs_cons (va_var rfl) vs_nil) (rc_lenLI (SqL.of hp))) (rv_I (show (0 : Int) < (ch.length : Int) by omega))) ?_
    generalize k / 9 % (ch.length : Int) = pl
    refine w_when (an_test (va_op (va_var rfl) va_c rv_eqI)) (fun _ => ?_) (fun _ => ?_)
    · exact fin rfl (by omega) (mi_cat (mi_cat (mi_sl (va_var rfl) hp po_n (po_s (va_var rfl))) (fun H' e => mi_one (str e (va_var rfl) (va_var rfl))) (by omega)) (fun H' e => mi_sl (va_var rfl) (e.1 _ _ hp) (po_s (va_op (va_var rfl) va_c rv_I0)) po_n) (by omega))
    refine w_when (an_test (va_op (va_var rfl) va_c rv_eqI)) (fun _ => ?_) (fun _ => ?_)
    · exact fin rfl (by omega) (mi_sl (va_var rfl) hp po_n (po_s (va_un va_c ru_neg)))
    refine w_when (an_test (va_op (va_var rfl) va_c rv_eqI)) (fun _ => ?_) (fun _ => ?_)
    · have m := emod_range (a := k / 9) (b := (gs.length : Int)) (by omega)
      exact fin rfl (by omega) (mi_catV (va_var rfl) hp (mi_one (an_val (va_op (va_op (va_var rfl) va_c (rv_ixT (SqT.of hd) rfl)) (va_op (va_cb (vs_cons (va_op (va_var rfl) va_c (rv_I (cdivP (by decide) (by decide)))) vs_nil) rc_int1) (va_cb (vs_cons (va_op (va_var rfl) va_c (rv_ixT (SqT.of hd) rfl)) vs_nil) (rc_lenLI (SqL.of hb0))) (rv_I (show (0 : Int) < (gs.length : Int) by omega))) (rv_ixL (SqL.of hb0) (at_gi m.1 m.2))))) (by omega))
    refine w_when (an_test (va_op (va_var rfl) va_c rv_eqI)) (fun _ => ?_) (fun _ => ?_)
    · exact fin rfl (by omega) (mi_sl (va_var rfl) hp (po_s va_c) po_n)
    refine w_when (an_test (va_op (va_var rfl) va_c rv_eqI)) (fun _ => fin rfl (by omega) (mi_rev (va_var rfl) hp)) (fun _ => ?_)
    exact fin rfl (by omega) mi_nil
end
end Fp

/-! ## E9 -/
set_option Elab.async false
set_option linter.all false
set_option maxRecDepth 100000
set_option maxHeartbeats 4000000
namespace Fp
open PySem L2 Fv
open Evl (Ex Ex.refl Ex.trans Ex.new fresh_back ex_rd ex_l ex_t)
open Fw
local macro_rules | `(tactic| walk_at "va") => `(tactic| first
  | with_reducible exact va_c
  | ((with_reducible apply va_var); exact rfl)
  | with_reducible exact vs_nil
  | ((with_reducible apply vs_cons) <;> walk_at "va")
  | ((with_reducible apply va_op) <;> walk_at "va")
  | ((with_reducible apply va_un) <;> walk_at "va")
  | ((with_reducible apply va_cb) <;> walk_at "va")
  | ((with_reducible apply va_call) <;> walk_at "va")
  | ((with_reducible apply an_test) <;> walk_at "va")
  | ((with_reducible apply an_B) <;> walk_at "va")
  | ((with_reducible apply an_not) <;> walk_at "va")
  | ((with_reducible apply va_chain) <;> walk_at "va")
  | ((with_reducible apply mk_lst) <;> first | walk_at "va" | (show _ ≤ 100000; decide))
  | ((with_reducible apply mk_tup) <;> first | walk_at "va" | (show _ ≤ 100000; decide))
  | ((with_reducible apply mk_cb) <;> walk_at "va")
  | ((with_reducible apply mk_call) <;> walk_at "va")
  | with_reducible exact rv_I0
  | with_reducible exact rv_eqI
  | with_reducible exact rv_neI
  | with_reducible exact ru_neg
  | with_reducible exact rc_int1
  | with_reducible exact rc_abs
  | with_reducible exact rc_max2
  | with_reducible exact rc_min2
  | ((with_reducible apply rc_sum); assumption)
  | ((with_reducible apply rc_lenLI); assumption)
  | ((with_reducible apply rc_lenTI); assumption)
  | ((with_reducible apply rc_lenL); assumption)
  | ((with_reducible apply rc_lenT); assumption)
  | ((with_reducible apply rv_ixL) <;> assumption)
  | ((with_reducible apply rv_ixT) <;> assumption)
  | ((with_reducible apply rv_ixSL) <;> assumption)
  | ((with_reducible apply rv_ixST) <;> assumption)
  | ((with_reducible apply rv_inL); assumption)
  | ((with_reducible apply rv_inT); assumption)
  | ((with_reducible apply rv_ninL); assumption)
  | ((with_reducible apply rv_ninT); assumption)
  | ((with_reducible apply rn_listL); assumption)
  | ((with_reducible apply rn_listT); assumption)
  | ((with_reducible apply rn_tupleL); assumption)
  | assumption)
/-! ### lists of rows, with their addresses -/
abbrev Zs := List (Addr × List Int)
def zR (zs : Zs) : List V := zs.map fun z => V.ref z.1
def zL (zs : Zs) : List (List Int) := zs.map fun z => z.2
def Zat (N : Addr → Prop) (H : Hp) (B : Nat) (zs : Zs) : Prop := ∀ z ∈ zs, N z.1 ∧ H z.1 = some (.lst (z.2.map V.int)) ∧ z.2.length ≤ B
def Sz (B : Nat) (ds : List Int) (ls : List (List Int)) : Prop := ds.length ≤ B ∧ ls.length ≤ B ∧ ∀ l ∈ ls, l.length ≤ B
theorem Zat.ex {N : Addr → Prop} {H H' : Hp} {B : Nat} {zs : Zs} (e : Ex H H') (h : Zat N H B zs) : Zat N H' B zs := fun z hz => ⟨(h z hz).1, e _ _ (h z hz).2.1, (h z hz).2.2⟩
theorem Zat.sub {N : Addr → Prop} {H : Hp} {B : Nat} {zs ys : Zs} (s : ∀ z ∈ ys, z ∈ zs) (h : Zat N H B zs) : Zat N H B ys := fun z hz => h z (s z hz)
theorem Zat.app {N : Addr → Prop} {H : Hp} {B : Nat} {zs ys : Zs} (h : Zat N H B zs) (k : Zat N H B ys) : Zat N H B (zs ++ ys) := fun z hz => by
  rcases List.mem_append.mp hz with q | q
  · exact h z q
  · exact k z q
theorem lli_zs {N : Addr → Prop} {H : Hp} {p : Addr} {ls : List (List Int)} {B : Nat} (h : LLi N H p ls) (hb : ∀ l ∈ ls, l.length ≤ B) : N p ∧ ∃ zs : Zs, H p = some (.lst (zR zs)) ∧ zL zs = ls ∧ Zat N H B zs := by
  obtain ⟨n, as, h1, h2, h3⟩ := h
  refine ⟨n, as.zip ls, ?_, ?_, fun z hz => ?_⟩
  · have e : (as.zip ls).map Prod.fst = as := List.map_fst_zip (by omega)
    have : zR (as.zip ls) = as.map V.ref := by
      conv => rhs; rw [← e]
      rw [List.map_map]
      rfl
    rw [this]
    exact h1
  · exact List.map_snd_zip (by omega)
  · obtain ⟨i, hi⟩ := List.getElem?_of_mem hz
    obtain ⟨x, l⟩ := z
    rw [List.getElem?_zip_eq_some] at hi
    obtain ⟨a, q1, q2, q3⟩ := h3 i l hi.2
    have := hi.1
    rw [q1] at this
    cases this
    exact ⟨q2, q3, hb l (List.mem_of_getElem? hi.2)⟩
theorem zs_lli {N : Addr → Prop} {H : Hp} {p : Addr} {B : Nat} {zs : Zs} (n : N p) (h : H p = some (.lst (zR zs))) (k : Zat N H B zs) : LLi N H p (zL zs) := by
  refine ⟨n, zs.map Prod.fst, by rw [h, List.map_map]; rfl, by unfold zL; rw [List.length_map, List.length_map], fun i l hl => ?_⟩
  unfold zL at hl
  rw [List.getElem?_map] at hl
  cases hz : zs[i]? with
  | none => rw [hz] at hl; cases hl
  | some z =>
    rw [hz] at hl
    cases hl
    have := k z (List.mem_of_getElem? hz)
    exact ⟨z.1, by rw [List.getElem?_map, hz]; rfl, this.1, this.2.1⟩
theorem zl_sz {N : Addr → Prop} {H : Hp} {B : Nat} {zs : Zs} (k : Zat N H B zs) : ∀ l ∈ zL zs, l.length ≤ B := fun l hl => by
  obtain ⟨z, hz, rfl⟩ := List.mem_map.mp hl
  exact (k z hz).2.2
/-- a new list of at most so many rows -/
def Mkl (N : Addr → Prop) (B : Nat) (te : TE) (σ : L2.St) (H : Hp) (n : Nat) : Prop := ∀ Q : VK, (∀ (p : Addr) (H2 : Hp) (zs : Zs), Nw H H2 → H p = none → H2 p = some (.lst (zR zs)) → Zat N H2 B zs → zs.length ≤ n → Q (.ref p) H2) → te σ H Q
theorem cut_rows (zs : Zs) (lo hi : Option Int) : ∃ ys : Zs, cutV (zR zs) lo hi = zR ys ∧ ys.length ≤ zs.length ∧ ∀ z ∈ ys, z ∈ zs := by
  unfold cutV zR
  rw [← List.map_drop, ← List.map_take]
  exact ⟨_, rfl, by rw [List.length_take, List.length_drop]; omega, fun z hz => List.mem_of_mem_drop (List.mem_of_mem_take hz)⟩
section
variable {K : PySem.W.Frag} {σ : L2.St} {H : Hp} {te ta tb tr : TE} {tl th : TO} {a : Addr} {zs : Zs} {n m B : Nat} {lo hi : Option Int} {N : Addr → Prop} {t : TT} {tu tw tz : TS} {D : Ends} {b : Bool}
theorem ml_sl (h : Val te σ H (.ref a)) (ha : H a = some (.lst (zR zs))) (k : Zat N H B zs) (hl : ∀ Q : Option Int → Hp → Prop, Q lo H → tl σ H Q) (hh : ∀ Q : Option Int → Hp → Prop, Q hi H → th σ H Q) : Mkl N B (tSl (rSlL K) te tl th) σ H zs.length := fun Q q => by
  obtain ⟨ys, e, l, s⟩ := cut_rows zs lo hi
  have mk := mk_slice (K := K) h hl hh (SqL.of ha)
  rw [e] at mk
  exact mk Q fun p np => q p _ ys ((Nw.refl H).lst np) np upd_same ((k.sub s).ex (Ex.new np)) l
theorem ml_rev (h : Val te σ H (.ref a)) (ha : H a = some (.lst (zR zs))) (k : Zat N H B zs) : Mkl N B (tRevL K te) σ H zs.length := fun Q q => by
  have mk := mk_rev (K := K) h (SqL.of ha)
  have e : (zR zs).reverse = zR zs.reverse := (List.map_reverse ..).symm
  rw [e] at mk
  exact mk Q fun p np => q p _ zs.reverse ((Nw.refl H).lst np) np upd_same ((k.sub fun z hz => List.mem_reverse.mp hz).ex (Ex.new np)) (by rw [List.length_reverse]; exact Nat.le_refl _)
theorem ml_nil : Mkl N B (tLst tNil) σ H 0 := fun Q q => r_lst (r_nil ⟨Nat.zero_le _, fun p np => q p _ [] ((Nw.refl H).lst np) np upd_same (fun z hz => nomatch hz) (Nat.le_refl _)⟩)
theorem ml_one (hN : ∀ a, H a = none → N a) (h : Mki te σ H n) (hn : n ≤ B) : Mkl N B (tLst (tCons te tNil)) σ H 1 := fun Q q => r_lst (r_cons (h _ fun p1 H1 ch n1 np1 hp1 hl => r_nil ⟨(by show 1 ≤ sizeLine; decide), fun p np => q p _ [(p1, ch)] (n1.lst np) (fresh_back n1.1 np) upd_same (fun z hz => by
  rw [List.mem_singleton.mp hz]
  exact ⟨hN p1 np1, Ex.new np _ _ hp1, Nat.le_trans hl hn⟩) (Nat.le_refl _)⟩))
theorem ml_cat (h1 : Mkl N B ta σ H n) (h2 : ∀ H', Nw H H' → Mkl N B tb σ H' m) (hz : n + m ≤ 100000) : Mkl N B (tOp rCat ta tb) σ H (n + m) := fun Q q => r_op (h1 _ fun p H1 xs n1 np hp k1 hl => h2 H1 n1 _ fun p2 H2 ys n2 np2 hp2 k2 hl2 =>
  ⟨p, p2, _, _, rfl, rfl, n2.1 _ _ hp, hp2, by unfold zR; rw [List.length_map, List.length_map]; exact Nat.le_trans (show xs.length + ys.length ≤ 100000 by omega) (by decide), fun r nr => q r _ (xs ++ ys) ((n1.trans n2).lst nr) (fresh_back (n1.trans n2).1 nr) (by unfold zR; rw [upd_same, List.map_append]) (((k1.ex n2.1).app k2).ex (Ex.new nr)) (by rw [List.length_append]; omega)⟩)
theorem ml_catV (h1 : Val ta σ H (.ref a)) (ha : H a = some (.lst (zR zs))) (k1 : Zat N H B zs) (h2 : Mkl N B tb σ H m) (hz : zs.length + m ≤ 100000) : Mkl N B (tOp rCat ta tb) σ H (zs.length + m) := fun Q q => r_op (h1 _ (h2 _ fun p2 H2 ys n2 np2 hp2 k2 hl2 =>
  ⟨a, p2, _, _, rfl, rfl, n2.1 _ _ ha, hp2, by unfold zR; rw [List.length_map, List.length_map]; exact Nat.le_trans (show zs.length + ys.length ≤ 100000 by omega) (by decide), fun r nr => q r _ (zs ++ ys) (n2.lst nr) (fresh_back n2.1 nr) (by unfold zR; rw [upd_same, List.map_append]) (((k1.ex n2.1).app k2).ex (Ex.new nr)) (by rw [List.length_append]; omega)⟩))
theorem w_ifC (M : L2.St → Hp → Prop) (h : Ans t σ H b) (h1 : b = true → (∀ σ' H', M σ' H' → tz D σ' H') → tu { D with nx := tz D } σ H) (h2 : b = false → (∀ σ' H', M σ' H' → tz D σ' H') → tw { D with nx := tz D } σ H) (k : ∀ σ' H', M σ' H' → tz D σ' H') : tSeq (tIfS t tu tw) tz D σ H := w_if h (fun e => h1 e k) (fun e => h2 e k)
theorem g_setL {l : Addr} {xs : List V} {v : V} {k : Nat} {Q : L2.St → Hp → Prop} (hl : H l = some (.lst xs)) (ho : Val ta σ H (.ref l)) (hi : Val tb σ H (.int (k : Int))) (hk : k < xs.length) (q : Q σ (upd H l (.lst (xs.set k v)))) : gSub ta tb rSetL v σ H Q :=
  ho _ (hi _ ⟨l, xs, (k : Int), k, rfl, rfl, hl, Evl.ixN_nat hk, q⟩)
end
/-! ### a certificate, changed in its place -/
theorem ne_ints {H : Hp} {a q : Addr} {ch : List Int} {c : Int} {x : Addr} {r : List V} (ha : H a = some (.lst (ch.map V.int))) (hq : H q = some (.lst (.int c :: .ref x :: r))) : a ≠ q := fun e => by
  rw [e, hq] at ha
  cases ch with
  | nil => cases ha
  | cons y ch =>
    cases ch with
    | nil => cases ha
    | cons z ch => cases ha
theorem ne_rows {H : Hp} {a q : Addr} {zs : Zs} {c : Int} {x : Addr} {r : List V} (ha : H a = some (.lst (zR zs))) (hq : H q = some (.lst (.int c :: .ref x :: r))) : a ≠ q := fun e => by
  rw [e, hq] at ha
  cases zs with
  | nil => cases ha
  | cons y zs => cases ha
theorem ne_ints_rows {H : Hp} {a q : Addr} {ch : List Int} {zs : Zs} (ha : H a = some (.lst (ch.map V.int))) (hq : H q = some (.lst (zR zs))) (hz : zs ≠ []) : a ≠ q := fun e => by
  rw [e, hq] at ha
  cases zs with
  | nil => exact hz rfl
  | cons y zs =>
    cases ch with
    | nil => cases ha
    | cons z ch => cases ha
theorem Zat.at {N : Addr → Prop} {H : Hp} {B : Nat} {zs : Zs} {q : Addr} {c : Int} {x : Addr} {r : List V} {o : HO} (hq : H q = some (.lst (.int c :: .ref x :: r))) (h : Zat N H B zs) : Zat N (L2.upd H q o) B zs := fun z hz => ⟨(h z hz).1, by rw [upd_ne (ne_ints (h z hz).2.1 hq)]; exact (h z hz).2.1, (h z hz).2.2⟩
theorem Zat.up {N : Addr → Prop} {H : Hp} {B B' : Nat} {zs : Zs} (h : Zat N H B zs) (hb : B ≤ B') : Zat N H B' zs := fun z hz => ⟨(h z hz).1, (h z hz).2.1, Nat.le_trans (h z hz).2.2 hb⟩
structure Sp5 (H0 H : Hp) (B : Nat) (q : Addr) (c : Int) (a b : Addr) (ds : List Int) (zs : Zs) : Prop where
  nw : Nw H0 H
  na : H0 a = none
  ha : H a = some (.lst (ds.map V.int))
  nb : H0 b = none
  hb : H b = some (.lst (zR zs))
  z : Zat (fun a => H0 a = none) H B zs
  ld : ds.length ≤ B
  lz : zs.length ≤ B
  q : H q = some (.lst [.int c, .ref a, .ref b])
theorem sp5_set {H0 H : Hp} {B : Nat} {q a b x : Addr} {c c0 : Int} {r : List V} {ds : List Int} {zs : Zs} (nq : H0 q = none) (hq : H q = some (.lst (.int c0 :: .ref x :: r))) (nw : Nw H0 H) (na : H0 a = none) (ha : H a = some (.lst (ds.map V.int))) (nb : H0 b = none) (hb : H b = some (.lst (zR zs))) (z : Zat (fun a => H0 a = none) H B zs) (ld : ds.length ≤ B) (lz : zs.length ≤ B) :
    Sp5 H0 (L2.upd H q (.lst [.int c, .ref a, .ref b])) B q c a b ds zs :=
  ⟨nw.set nq hq, na, by rw [upd_ne (ne_ints ha hq)]; exact ha, nb, by rw [upd_ne (ne_rows hb hq)]; exact hb, z.at hq, ld, lz, upd_same⟩
theorem Sp5.pap {H0 H : Hp} {B : Nat} {q a b : Addr} {c : Int} {ds : List Int} {zs : Zs} (s : Sp5 H0 H B q c a b ds zs) (nq : H0 q = none) : PapL (fun a => H0 a = none) H q c ds (zL zs) ∧ Sz B ds (zL zs) :=
  ⟨⟨nq, _, s.q, a, b, rfl, s.na, s.ha, zs_lli s.nb s.hb s.z⟩, s.ld, by unfold zL; rw [List.length_map]; exact s.lz, zl_sz s.z⟩
theorem pap_sp5 {H0 H : Hp} {B : Nat} {q : Addr} {c : Int} {ds : List Int} {ls : List (List Int)} (nw : Nw H0 H) (p : PapL (fun a => H0 a = none) H q c ds ls) (s : Sz B ds ls) : H0 q = none ∧ ∃ a b zs, Sp5 H0 H B q c a b ds zs := by
  obtain ⟨nq, xs, hq, a, b, rfl, na, ha, L⟩ := p
  obtain ⟨nb, zs, hb, hl, hz⟩ := lli_zs L s.2.2
  refine ⟨nq, a, b, zs, nw, na, ha, nb, hb, hz, s.1, ?_, hq⟩
  have := s.2.1
  rw [← hl] at this
  unfold zL at this
  rw [List.length_map] at this
  exact this
theorem sp5_row {H0 H : Hp} {B : Nat} {q a b y : Addr} {c : Int} {ds ch : List Int} {zs : Zs} {k : Nat} (s : Sp5 H0 H B q c a b ds zs) (hk : k < zs.length) (ny : H0 y = none) (hy : H y = some (.lst (ch.map V.int))) (hl : ch.length ≤ B) : Sp5 H0 (L2.upd H b (.lst ((zR zs).set k (.ref y)))) B q c a b ds (zs.set k (y, ch)) := by
  have hz : zs ≠ [] := fun e => by rw [e] at hk; exact absurd hk (Nat.not_lt_zero k)
  refine ⟨s.nw.set s.nb s.hb, s.na, by rw [upd_ne (ne_ints_rows s.ha s.hb hz)]; exact s.ha, s.nb, ?_, fun z hm => ?_, s.ld, by rw [List.length_set]; exact s.lz, ?_⟩
  · rw [upd_same]
    unfold zR
    rw [List.map_set]
  · rcases List.mem_or_eq_of_mem_set hm with h | h
    · have := s.z z h
      exact ⟨this.1, by rw [upd_ne (ne_ints_rows this.2.1 s.hb hz)]; exact this.2.1, this.2.2⟩
    · rw [h]
      exact ⟨ny, by rw [upd_ne (ne_ints_rows hy s.hb hz)]; exact hy, hl⟩
  · rw [upd_ne (ne_rows s.hb s.q).symm]
    exact s.q
def spSpoil : Sp := fun vs H Q _ => ND H ∧ ∃ (d : Addr) (ps gs : List Int) (p : Addr) (k m c : Int) (ds : List Int) (ls : List (List Int)) (B : Nat), vs = [.ref d, .ref p, .int k, .int m] ∧ Dra H d ps gs ∧ Good ps gs ∧ PapX H p c ds ls ∧ Sz B ds ls ∧ B ≤ 300 ∧
  ∀ (q : Addr) (H2 : Hp) (c' : Int) (ds' : List Int) (ls' : List (List Int)), Nw H H2 → PapL (fun a => H a = none) H2 q c' ds' ls' → Sz (3 * B + 3) ds' ls' → Q (.ref q) H2
section
variable {P : Program} {w : World} {K : PySem.W.Frag} {mg : Str → Option Value} {base : Heap} {C f : Addr} {fd : FuncData}
theorem ok_L_spoil (T : Txt K mg C) (F : Fun K "_law_spoil" "_law_spoil" s_L_spoil f fd) (c_L_copied : C8.Cal P w K mg base 1 "_law_copied" spCopied []) (c_L_spoil_doors : C8.Cal P w K mg base 2 "_law_spoil_doors" spSpoilInts []) (c_L_spoil_row : C8.Cal P w K mg base 2 "_law_spoil_row" spSpoilInts []) :
    FnOk P w K mg base CX0 3 f fd ["_law_drawn_here", "_law_paper", "_law_digit", "_law_more"] spSpoil := by
  refine okF F sc_L_spoil (fun vs H Q E h => h.1) (fun vs H Q E h => ?_) (fun cdv A outer s0 H vs Q E hr h => ?_)
  · obtain ⟨_, d, ps, gs, p, k, m, c, ds, ls, B, rfl, _⟩ := h
    rfl
  · obtain ⟨nd, d, ps, gs, p, k, m, c, ds, ls, B, rfl, D0, g, px, sz, hB, q⟩ := h
    refine ⟨_, (pss_cons (ps_set (i := 4) sc_L_spoil.nd rfl (Or.inl rfl) (pe_op op_mod (pe_callTy call_int1 (by rfl) T.int bt_int (pa_cons (pv 2) pa_nil)) pe_int))
      (pss_cons (ps_set (i := 5) sc_L_spoil.nd rfl (Or.inl rfl) (C8.pe_c c_L_copied hr (by decide) (by rfl) (pa_cons (pv 1) pa_nil)))
      (pss_cons (ps_if (pt_cmpR op_lt (pv 4) pe_int (nomark _)) (pss_one (ps_asg (pe_op op_sub (pe_op op_add (pe_ix ix_list (pv 5) pe_int (fun _ _ => rfl)) pe_int) (pe_op op_mul pe_int (pv 4))) (pg_sub (pv 5) pe_int set_list))) (pss_one (ps_if (pt_cmpR op_lt (pv 4) pe_int (nomark _)) (pss_one (ps_asg (C8.pe_c c_L_spoil_doors hr (by decide) (by rfl) (pa_cons (pv 0) (pa_cons (pe_ix ix_list (pv 5) pe_int (fun _ _ => rfl)) (pa_cons (pe_op op_sub (pv 4) pe_int) (pa_cons (pv 3) pa_nil))))) (pg_sub (pv 5) pe_int set_list))) (pss_one (ps_if (pt_cmpR op_eq (pe_callB call_len_seq (by rfl) T.len bt_len (pa_cons (pe_ix ix_list (pv 5) pe_int (fun _ _ => rfl)) pa_nil)) pe_int (nomark _)) (pss_one (ps_asg (pe_lst (pa_cons (pe_lst (pa_cons (pe_ix ix_list (pe_ix ix_tup (pv 0) pe_int (fun _ _ => rfl)) pe_int (fun _ _ => rfl)) pa_nil)) pa_nil)) (pg_sub (pv 5) pe_int set_list))) (pss_one (ps_if (pt_cmpR op_lt (pv 4) pe_int (nomark _)) (pss_cons (ps_set (i := 6) sc_L_spoil.nd rfl (Or.inl rfl) (pe_op op_mod (pe_callTy call_int1 (by rfl) T.int bt_int (pa_cons (pe_op op_fdiv (pv 3) pe_int) pa_nil)) (pe_callB call_len_seq (by rfl) T.len bt_len (pa_cons (pe_ix ix_list (pv 5) pe_int (fun _ _ => rfl)) pa_nil))))
              (pss_one (ps_asg (C8.pe_c c_L_spoil_row hr (by decide) (by rfl) (pa_cons (pv 0) (pa_cons (pe_ix ix_list (pe_ix ix_list (pv 5) pe_int (fun _ _ => rfl)) (pv 6) (fun _ _ => rfl)) (pa_cons (pe_op op_sub (pv 4) pe_int) (pa_cons (pv 3) pa_nil))))) (pg_sub (pe_ix ix_list (pv 5) pe_int (fun _ _ => rfl)) (pv 6) set_list)))) (pss_one (ps_if (pt_cmpR op_eq (pv 4) pe_int (nomark _)) (pss_one (ps_asg (pe_slice sl_list (pe_ix ix_list (pv 5) pe_int (fun _ _ => rfl)) (po_some pe_int) po_none) (pg_sub (pv 5) pe_int set_list))) (pss_one (ps_if (pt_cmpR op_eq (pv 4) pe_int (nomark _)) (pss_one (ps_asg (pe_slice sl_list (pe_ix ix_list (pv 5) pe_int (fun _ _ => rfl)) po_none (po_some (pe_un un_neg pe_int))) (pg_sub (pv 5) pe_int set_list))) (pss_one (ps_if (pt_cmpR op_eq (pv 4) pe_int (nomark _)) (pss_one (ps_asg (pe_op op_cat (pe_ix ix_list (pv 5) pe_int (fun _ _ => rfl)) (pe_lst (pa_cons (pe_callTy call_list_of (by rfl) T.list bt_list (pa_cons (pe_ix ix_list (pe_ix ix_list (pv 5) pe_int (fun _ _ => rfl)) (pe_un un_neg pe_int) (fun _ _ => rfl)) pa_nil)) pa_nil))) (pg_sub (pv 5) pe_int set_list))) (pss_one (ps_if (pt_cmpR op_eq (pv 4) pe_int (nomark _)) (pss_one (ps_asg (pe_revL (pe_ix ix_list (pv 5) pe_int (fun _ _ => rfl))) (pg_sub (pv 5) pe_int set_list))) (pss_one (ps_if (pt_cmpR op_eq (pv 4) pe_int (nomark _)) (pss_one (ps_asg (pe_op op_cat (pe_slice sl_list (pe_ix ix_list (pv 5) pe_int (fun _ _ => rfl)) (po_some pe_int) po_none) (pe_slice sl_list (pe_ix ix_list (pv 5) pe_int (fun _ _ => rfl)) po_none (po_some pe_int))) (pg_sub (pv 5) pe_int set_list))) (pss_one (ps_asg (pe_lst pa_nil) (pg_sub (pv 5) pe_int set_list))))))))))))))))))))
      (pss_one (ps_ret (pv 5)))))), ?_⟩
    have hgl : 0 < gs.length := List.length_pos_iff.mpr g.ne
    refine w_asg (va_op (va_cb (vs_cons (va_var rfl) vs_nil) rc_int1) va_c (rv_I (show (0 : Int) < 21 by decide))) ?_
    generalize k % 21 = kd
    refine r_seq (r_asg (r_call ((vs_cons (va_var rfl) vs_nil).go ?_)))
    refine ⟨nd, p, c, ds, ls, rfl, px, by have := sz.1; omega, by have := sz.2.1; omega, fun r H1 nw pl => ?_⟩
    refine r_nm ?_
    obtain ⟨nr, a, b, zs, S⟩ := pap_sp5 nw pl sz
    have hld := S.ld
    have hlz := S.lz
    have SB := S.z.up (show B ≤ 3 * B + 3 by omega)
    have D1 := D0.ex nw.1
    obtain ⟨a0, b0, hd, ha0, hb0⟩ := id D1
    have nd1 := nw.nd nd
    have hN : ∀ x, H1 x = none → H x = none := fun x hx => fresh_back nw.1 hx
    refine w_ifC (fun σ' H' => (∃ v : Option V, σ' = [some (.ref d), some (.ref p), some (.int k), some (.int m), some (.int kd), some (.ref r), v]) ∧ ∃ c a b ds zs, Sp5 H H' (3 * B + 3) r c a b ds zs) (an_test (va_op (va_var rfl) va_c rv_I0)) (fun _ kk => ?_) (fun _ kk => ?_) ?_
    · refine e_setL (k := 0) S.q (va_op (va_op (va_op (va_var rfl) va_c (rv_ixL (SqL.of S.q) rfl)) va_c rv_I0) (va_op va_c (va_var rfl) (rv_I (.inl (by decide)))) rv_I0) (va_var rfl) va_c (show 0 < 3 by decide) ?_
      exact kk _ _ ⟨⟨none, rfl⟩, _, a, b, ds, zs, sp5_set nr S.q S.nw S.na S.ha S.nb S.hb SB (by omega) (by omega)⟩
    have fin2 : ∀ {te : TE} {D : Ends} {n : Nat}, n ≤ 3 * B + 3 → Mkl (fun x => H x = none) (3 * B + 3) te [some (.ref d), some (.ref p), some (.int k), some (.int m), some (.int kd), some (.ref r), none] H1 n →
        (∀ σ' H', ((∃ v : Option V, σ' = [some (.ref d), some (.ref p), some (.int k), some (.int m), some (.int kd), some (.ref r), v]) ∧ ∃ c a b ds zs, Sp5 H H' (3 * B + 3) r c a b ds zs) → D.nx σ' H') →
        tAsg te (gSub (tVar 5) (tC (.int 2)) rSetL) D [some (.ref d), some (.ref p), some (.int k), some (.int m), some (.int kd), some (.ref r), none] H1 := fun hn ml kk => r_asg (ml _ fun b' H3 zs' nw' nb' hb' z' hl' => by
      refine g_setL (k := 2) (nw'.1 _ _ S.q) (va_var rfl) va_c (show 2 < 3 by decide) ?_
      exact kk _ _ ⟨⟨none, rfl⟩, _, a, b', ds, zs', sp5_set nr (nw'.1 _ _ S.q) (S.nw.trans nw') S.na (nw'.1 _ _ S.ha) (hN _ nb') hb' z' (by omega) (by omega)⟩)
    have vB : ∀ {H' : Hp}, Nw H1 H' → Val (tOp (rIxL K) (tVar 5) (tC (.int 2))) [some (.ref d), some (.ref p), some (.int k), some (.int m), some (.int kd), some (.ref r), none] H' (.ref b) := fun e => va_op (va_var rfl) va_c (rv_ixL (SqL.of (e.1 _ _ S.q)) rfl)
    · refine e_if (an_test (va_op (va_var rfl) va_c rv_I0)) (fun _ => ?_) (fun _ => ?_)
      · refine r_asg (r_call ((vs_cons (va_var rfl) (vs_cons (va_op (va_var rfl) va_c (rv_ixL (SqL.of S.q) rfl)) (vs_cons (va_op (va_var rfl) va_c rv_I0) (vs_cons (va_var rfl) vs_nil)))).go ?_))
        refine ⟨nd1, d, ps, gs, a, ds, _, m, rfl, D1, g, S.ha, by omega, fun a' H3 ch' nw' np ha' hl => ?_⟩
        refine g_setL (k := 1) (nw'.1 _ _ S.q) (va_var rfl) va_c (show 1 < 3 by decide) ?_
        exact kk _ _ ⟨⟨none, rfl⟩, _, a', b, ch', zs, sp5_set nr (nw'.1 _ _ S.q) (S.nw.trans nw') (hN _ np) ha' S.nb (nw'.1 _ _ S.hb) (SB.ex nw'.1) (by omega) (by omega)⟩
      refine e_if (an_test (va_op (va_cb (vs_cons (vB (Nw.refl _)) vs_nil) (rc_lenL (SqL.of S.hb))) va_c rv_eqI)) (fun _ => ?_) (fun bz => ?_)
      · exact fin2 (by omega) (ml_one hN (mi_one (an_val (va_op (va_op (va_var rfl) va_c (rv_ixT (SqT.of hd) rfl)) va_c (rv_ixL (SqL.of hb0) (at_gi (by omega) (by omega)))))) (by omega)) kk
      have bz := of_decide_eq_false bz
      have hzl : 0 < zs.length := by
        unfold zR at bz
        rw [List.length_map] at bz
        omega
      refine e_if (an_test (va_op (va_var rfl) va_c rv_I0)) (fun _ => ?_) (fun _ => ?_)
      · have mm := emod_range (a := m / 63) (b := (zs.length : Int)) (by omega)
        obtain ⟨j, hj⟩ : ∃ j : Nat, m / 63 % (zs.length : Int) = (j : Int) := ⟨(m / 63 % (zs.length : Int)).toNat, by omega⟩
        have hjl : j < zs.length := by omega
        have hzj : zs[j]? = some zs[j] := List.getElem?_eq_getElem hjl
        generalize zs[j] = zj at hzj
        have gz := S.z zj (List.mem_of_getElem? hzj)
        refine w_asg (va_is (va_op (va_cb (vs_cons (va_op (va_var rfl) va_c (rv_I (cdivP (by decide) (by decide)))) vs_nil) rc_int1) (va_is (va_cb (vs_cons (vB (Nw.refl _)) vs_nil) (rc_lenL (SqL.of S.hb))) (by unfold zR; rw [List.length_map])) (rv_I (show (0 : Int) < (zs.length : Int) by omega))) (congrArg V.int hj)) ?_
        refine r_asg (r_call ((vs_cons (va_var rfl) (vs_cons (va_op (va_op (va_var rfl) va_c (rv_ixL (SqL.of S.q) rfl)) (va_var rfl) (rv_ixL (SqL.of S.hb) (atI_nat (v := .ref zj.1) (by unfold zR; rw [List.getElem?_map, hzj]; rfl)))) (vs_cons (va_op (va_var rfl) va_c rv_I0) (vs_cons (va_var rfl) vs_nil)))).go ?_))
        refine ⟨nd1, d, ps, gs, zj.1, zj.2, _, m, rfl, D1, g, gz.2.1, by omega, fun a' H3 ch' nw' np ha' hl => ?_⟩
        have S3 : Sp5 H H3 (3 * B + 3) r c a b ds zs := ⟨S.nw.trans nw', S.na, nw'.1 _ _ S.ha, S.nb, nw'.1 _ _ S.hb, SB.ex nw'.1, by omega, by omega, nw'.1 _ _ S.q⟩
        refine g_setL (k := j) S3.hb (va_op (va_var rfl) va_c (rv_ixL (SqL.of S3.q) rfl)) (va_var rfl) (by unfold zR; rw [List.length_map]; exact hjl) ?_
        exact kk _ _ ⟨⟨_, rfl⟩, _, a, b, ds, _, sp5_row S3 hjl (hN _ np) ha' (by omega)⟩
      refine e_if (an_test (va_op (va_var rfl) va_c rv_eqI)) (fun _ => ?_) (fun _ => ?_)
      · exact fin2 (by omega) (ml_sl (vB (Nw.refl _)) S.hb SB (po_s va_c) po_n) kk
      refine e_if (an_test (va_op (va_var rfl) va_c rv_eqI)) (fun _ => ?_) (fun _ => ?_)
      · exact fin2 (by omega) (ml_sl (vB (Nw.refl _)) S.hb SB po_n (po_s (va_un va_c ru_neg))) kk
      refine e_if (an_test (va_op (va_var rfl) va_c rv_eqI)) (fun _ => ?_) (fun _ => ?_)
      · obtain ⟨ys, z, rfl⟩ : ∃ ys z, zs = ys ++ [z] := by
          rcases List.eq_nil_or_concat zs with e | ⟨ys, z, e⟩
          · rw [e] at hzl
            exact absurd hzl (by decide)
          · exact ⟨ys, z, by rw [e]; exact List.concat_eq_append ..⟩
        have gz := S.z z (List.mem_append_right _ (List.mem_singleton.mpr rfl))
        have lst : atI (zR (ys ++ [z])) (-1) = some (.ref z.1) := by
          unfold zR
          rw [List.map_append]
          exact atI_last _ _
        exact fin2 (by omega) (ml_catV (vB (Nw.refl _)) S.hb SB (ml_one hN (mi_mk (ys := z.2) (mk_cb (vs_cons (va_op (vB (Nw.refl _)) (va_un va_c ru_neg) (rv_ixL (SqL.of S.hb) lst)) vs_nil) (rn_listL (SqL.of gz.2.1))) gz.2.2) (by omega)) (by omega)) kk
      refine e_if (an_test (va_op (va_var rfl) va_c rv_eqI)) (fun _ => ?_) (fun _ => ?_)
      · exact fin2 (by omega) (ml_rev (vB (Nw.refl _)) S.hb SB) kk
      refine e_if (an_test (va_op (va_var rfl) va_c rv_eqI)) (fun _ => ?_) (fun _ => ?_)
      · exact fin2 (by omega) (ml_cat (ml_sl (vB (Nw.refl _)) S.hb SB (po_s va_c) po_n) (fun H' e => ml_sl (vB e) (e.1 _ _ S.hb) (SB.ex e.1) po_n (po_s va_c)) (by omega)) kk
      exact fin2 (by omega) ml_nil kk
    · rintro σ' H' ⟨⟨v, rfl⟩, c', a', b', ds', zs', S'⟩
      obtain ⟨p1, p2⟩ := S'.pap nr
      exact w_ret (va_var rfl) (rt_nw S'.nw (q r H' c' ds' _ S'.nw p1 p2))
end
end Fp

/-! ## G1 -/
set_option Elab.async false
set_option linter.all false
set_option maxRecDepth 100000
set_option maxHeartbeats 4000000
namespace Fp
open PySem L2 Fv
open Evl (Ex Ex.refl Ex.trans Ex.new fresh_back ex_rd ex_l ex_t)
open Fw
local macro_rules | `(tactic| walk_at "va") => `(tactic| first
  | with_reducible exact va_c
  | ((with_reducible apply va_var); exact rfl)
  | with_reducible exact vs_nil
  | ((with_reducible apply vs_cons) <;> walk_at "va")
  | ((with_reducible apply va_op) <;> walk_at "va")
  | ((with_reducible apply va_un) <;> walk_at "va")
  | ((with_reducible apply va_cb) <;> walk_at "va")
  | ((with_reducible apply va_call) <;> walk_at "va")
  | ((with_reducible apply an_test) <;> walk_at "va")
  | ((with_reducible apply an_B) <;> walk_at "va")
  | ((with_reducible apply an_not) <;> walk_at "va")
  | ((with_reducible apply va_chain) <;> walk_at "va")
  | ((with_reducible apply mk_lst) <;> first | walk_at "va" | (show _ ≤ 100000; decide))
  | ((with_reducible apply mk_tup) <;> first | walk_at "va" | (show _ ≤ 100000; decide))
  | ((with_reducible apply mk_cb) <;> walk_at "va")
  | ((with_reducible apply mk_call) <;> walk_at "va")
  | with_reducible exact rv_I0
  | with_reducible exact rv_eqI
  | with_reducible exact rv_neI
  | with_reducible exact ru_neg
  | with_reducible exact rc_int1
  | with_reducible exact rc_abs
  | with_reducible exact rc_max2
  | with_reducible exact rc_min2
  | ((with_reducible apply rc_sum); assumption)
  | ((with_reducible apply rc_lenLI); assumption)
  | ((with_reducible apply rc_lenTI); assumption)
  | ((with_reducible apply rc_lenL); assumption)
  | ((with_reducible apply rc_lenT); assumption)
  | ((with_reducible apply rv_ixL) <;> assumption)
  | ((with_reducible apply rv_ixT) <;> assumption)
  | ((with_reducible apply rv_ixSL) <;> assumption)
  | ((with_reducible apply rv_ixST) <;> assumption)
  | ((with_reducible apply rv_inL); assumption)
  | ((with_reducible apply rv_inT); assumption)
  | ((with_reducible apply rv_ninL); assumption)
  | ((with_reducible apply rv_ninT); assumption)
  | ((with_reducible apply rn_listL); assumption)
  | ((with_reducible apply rn_listT); assumption)
  | ((with_reducible apply rn_tupleL); assumption)
  | assumption)
/-! ### checks, made_paper -/
def spChecks (C : Addr) : Sp := fun vs H Q _ => ND H ∧ ∃ (r d p : Addr) (ps gs : List Int) (n c : Int) (ds : List Int) (ls : List (List Int)), vs = [.ref r, .ref d, .int n, .ref p] ∧ RingAt C H r ps gs ∧ Dra H d ps gs ∧ Good ps gs ∧ ps.length ≤ 1000 ∧ gs.length ≤ 1000 ∧ 1 ≤ n ∧ PapL (fun _ => True) H p c ds ls ∧ ds.length ≤ 1000 ∧ ls.length ≤ 1000 ∧ Q (.bl true) H
def spMadePaper : Sp := fun vs H Q _ => ND H ∧ ∃ (d p e : Addr) (ps gs es : List Int) (n c : Int) (ds : List Int) (ls : List (List Int)) (sm : Bool), vs = [.ref d, .int n, .ref p, .ref e, .bl sm] ∧ Dra H d ps gs ∧ Good ps gs ∧ ps.length ≤ 1000 ∧ gs.length ≤ 60 ∧ 1 ≤ n ∧
  PapL (fun _ => True) H p c ds ls ∧ Sz 60 ds ls ∧ (∃ T, IsSet gs n T ∧ cost ps T = c) ∧ (sm = true → gs.length ≤ 12) ∧ H e = some (.lst (es.map V.int)) ∧ es.length = 32 ∧
  ∀ (q : Addr) (H2 : Hp) (c' : Int) (ds' : List Int) (ls' : List (List Int)), Nw H H2 → PapL (fun a => H a = none) H2 q c' ds' ls' → Sz 60 ds' ls' → Q (.ref q) H2
section
variable {K : PySem.W.Frag} {H : Hp} {a b : Bool}
theorem rv_notB : RV rNotB (.bl a) (.bl b) H (.bl (!decide (a = b))) := fun _ q => ⟨a, b, rfl, rfl, q⟩
end
theorem PapL.tt {N : Addr → Prop} {H : Hp} {p : Addr} {c : Int} {ds : List Int} {ls : List (List Int)} (h : PapL N H p c ds ls) : PapL (fun _ => True) H p c ds ls := h.imp fun _ _ => True.intro
theorem PapT.tt {N : Addr → Prop} {H : Hp} {p : Addr} {c : Int} {ds : List Int} {ls : List (List Int)} (h : PapT N H p c ds ls) : PapT (fun _ => True) H p c ds ls := h.imp fun _ _ => True.intro
section
variable {P : Program} {w : World} {K : PySem.W.Frag} {mg : Str → Option Value} {base : Heap} {C f : Addr} {fd : FuncData}
theorem ok_L_checks (T : Txt K mg C) (F : Fun K "_law_checks" "_law_checks" s_L_checks f fd) (c_L_copied : C8.Cal P w K mg base 1 "_law_copied" spCopied []) (c_L_holds : C8.Cal P w K mg base 4 "_law_holds" spHolds []) (c_P_check_few : C8.Cal P w K mg base 6 "check_few" (spCheckFew C) []) :
    FnOk P w K mg base CX0 7 f fd ["_law_ring", "_law_drawn_here", "_law_count", "_law_paper"] (spChecks C) := by
  refine okF F sc_L_checks (fun vs H Q E h => h.1) (fun vs H Q E h => ?_) (fun cdv A outer s0 H vs Q E hr h => ?_)
  · obtain ⟨_, r, d, p, ps, gs, n, c, ds, ls, rfl, _⟩ := h
    rfl
  · obtain ⟨nd, r, d, p, ps, gs, n, c, ds, ls, rfl, R, D0, g, hzp, hzg, hn, px, hds, hls, q⟩ := h
    refine ⟨_, (pss_cons (ps_set (i := 4) sc_L_checks.nd rfl (Or.inl rfl) (C8.pe_c c_L_holds hr (by decide) (by rfl) (pa_cons (pv 1) (pa_cons (pv 2) (pa_cons (pv 3) pa_nil)))))
      (pss_cons (ps_for PassesOwn.never rfl (pi_range1 (by rfl) T.range (pa_cons pe_int pa_nil)) (pg_name (i := 5) sc_L_checks.nd rfl (Or.inl rfl)) (pss_cons (ps_set (i := 6) sc_L_checks.nd rfl (Or.inl rfl) (C8.pe_c c_L_copied hr (by decide) (by rfl) (pa_cons (pv 3) pa_nil)))
        (pss_cons (ps_set (i := 7) sc_L_checks.nd rfl (Or.inl rfl) (C8.pe_c c_P_check_few hr (by decide) (by rfl) (pa_cons (pv 0) (pa_cons (pv 2) (pa_cons (pe_tup (pa_cons (pe_ix ix_list (pv 6) pe_int (fun _ _ => rfl)) (pa_cons (pe_ix ix_list (pv 6) pe_int (fun _ _ => rfl)) (pa_cons (pe_ix ix_list (pv 6) pe_int (fun _ _ => rfl)) pa_nil)))) pa_nil)))))
        (pss_cons (ps_if (PW.pt (pw_and (pt_val (pv 4)) (pw_and1 (pt_cmpR op_notBl (pv 7) pe_bl (nomark _))))) (pss_one (ps_ret pe_bl)) pss_nil)
        (pss_cons (ps_if (PW.pt (pw_and (pt_not (pt_val (pv 4))) (pw_and1 (pt_cmpR op_notBl (pv 7) pe_bl (nomark _))))) (pss_one (ps_ret pe_bl)) pss_nil)
        (pss_one (ps_if (pt_cmpR (op_neD hr.units) (pv 6) (pv 3) (nomark _)) (pss_one (ps_ret pe_bl)) pss_nil)))))))
      (pss_one (ps_ret pe_bl)))), ?_⟩
    obtain ⟨b1, hb1⟩ := yes_no (Acc ps gs n c ds ls)
    refine w_asg (va_call (z := .bl b1) (vs_cons (va_var rfl) (vs_cons (va_var rfl) (vs_cons (va_var rfl) vs_nil))) (fun Q E k => ⟨nd, d, ps, gs, n, p, c, ds, ls, rfl, D0, g, hzp, hzg, hn, px.x, hds, hls, fun b' hb' => by rw [iff_same hb' hb1]; exact k⟩)) ?_
    refine w_forR (n := 2) (vs_cons va_c vs_nil) (by decide) (fun i σ' H' => (∃ v1 v2 v3 : Option V, σ' = [some (.ref r), some (.ref d), some (.int n), some (.ref p), some (.bl b1), v1, v2, v3]) ∧ Nw H H')
      ⟨⟨none, none, none, rfl⟩, Nw.refl H⟩ ?_ ?_
    · rintro i σ' H1 hi ⟨⟨v1, v2, v3, rfl⟩, e1⟩
      refine r_seq (r_asg (r_call ((vs_cons (va_var rfl) vs_nil).go ?_)))
      refine ⟨e1.nd nd, p, c, ds, ls, rfl, px.x.ex e1.1, hds, hls, fun hq H2 nw pl => ?_⟩
      refine r_nm ?_
      have e2 := e1.trans nw
      obtain ⟨_, xs, hx, a, b, rfl, _, ha, LL⟩ := id pl
      refine r_seq (r_asg (r_call (r_cons ?_)))
      refine (va_var rfl).go ?_
      refine r_cons ?_
      refine (va_var rfl).go ?_
      refine r_cons ?_
      refine (mk_tup (vs_cons (va_op (va_var rfl) va_c (rv_ixL (SqL.of hx) rfl)) (vs_cons (va_op (va_var rfl) va_c (rv_ixL (SqL.of hx) rfl)) (vs_cons (va_op (va_var rfl) va_c (rv_ixL (SqL.of hx) rfl)) vs_nil))) (by show 3 ≤ 100000; decide)).go fun tp ntp => ?_
      refine r_nil ?_
      have e3 := e2.add (o := .tup [.int c, .ref a, .ref b]) ntp True.intro
      have pt : PapT (fun _ => True) (upd H2 tp (.tup [.int c, .ref a, .ref b])) tp c ds ls := ⟨True.intro, _, upd_same, a, b, rfl, True.intro, Ex.new ntp _ _ ha, (LL.ex (Ex.new ntp)).imp fun _ _ => True.intro⟩
      have pl3 := pl.ex (Ex.new (o := .tup [.int c, .ref a, .ref b]) ntp)
      generalize (upd H2 tp (.tup [.int c, .ref a, .ref b])) = H3 at e3 pt pl3
      refine ⟨e3.nd nd, r, ps, gs, n, tp, c, ds, ls, rfl, R.ex e3.1, g, hzg, pt, hds, hls, fun b' hb' => ?_⟩
      refine r_nm ?_
      rw [iff_same hb' hb1]
      refine w_when (b := false) (an_is (an_and (an_B (va_var rfl)) (fun _ => an_test (va_op (va_var rfl) va_c rv_notB))) (by cases b1 <;> rfl)) (fun z => by cases z) (fun _ => ?_)
      refine w_when (b := false) (an_is (an_and (an_not (an_B (va_var rfl))) (fun _ => an_test (va_op (va_var rfl) va_c rv_notB))) (by cases b1 <;> rfl)) (fun z => by cases z) (fun _ => ?_)
      refine e_when (b := false) (an_test (va_op (va_var rfl) (va_var rfl) (rv_nePap pl3 (px.ex e3.1)))) (fun z => by cases z) (fun _ => ?_)
      exact ⟨⟨_, _, _, rfl⟩, e3⟩
    · rintro σ' H1 ⟨⟨v1, v2, v3, rfl⟩, e1⟩
      exact w_ret va_c (rt_val e1.1 q)
theorem ok_L_made_paper (T : Txt K mg C) (F : Fun K "_law_made_paper" "_law_made_paper" s_L_made_paper f fd) (c_L_copied : C8.Cal P w K mg base 1 "_law_copied" spCopied []) (c_L_paper_of : C8.Cal P w K mg base 4 "_law_paper_of" spPaperOf []) (c_L_best_doors : C8.Cal P w K mg base 4 "_law_best_doors" spBestDoors [])
    (c_L_some_doors : C8.Cal P w K mg base 1 "_law_some_doors" spSome []) : FnOk P w K mg base CX0 5 f fd ["_law_drawn_here", "_law_count", "_law_told", "_law_choices", "_law_small"] spMadePaper := by
  refine okF F sc_L_made_paper (fun vs H Q E h => h.1) (fun vs H Q E h => ?_) (fun cdv A outer s0 H vs Q E hr h => ?_)
  · obtain ⟨_, d, p, e, ps, gs, es, n, c, ds, ls, sm, rfl, _⟩ := h
    rfl
  · obtain ⟨nd, d, p, e, ps, gs, es, n, c, ds, ls, sm, rfl, D0, g, hzp, hzg, hn, px, sz, hT, hsm, he, hel, q⟩ := h
    refine ⟨_, (pss_cons (ps_set (i := 5) sc_L_made_paper.nd rfl (Or.inl rfl) (pe_op op_mod (pe_callTy call_int1 (by rfl) T.int bt_int (pa_cons (pe_ix ix_list (pv 3) pe_int (fun _ _ => rfl)) pa_nil)) pe_int))
      (pss_cons (ps_if (pt_cmpR op_eq (pv 5) pe_int (nomark _)) (pss_one (ps_ret (C8.pe_c c_L_copied hr (by decide) (by rfl) (pa_cons (pv 2) pa_nil)))) pss_nil)
      (pss_cons (ps_if (PW.pt (pw_and (pt_cmpR op_eq (pv 5) pe_int (nomark _)) (pw_and1 (pt_val (pv 4))))) (pss_one (ps_ret (C8.pe_c c_L_paper_of hr (by decide) (by rfl) (pa_cons (pv 0) (pa_cons (pv 1) (pa_cons (C8.pe_c c_L_best_doors hr (by decide) (by rfl) (pa_cons (pv 0) (pa_cons (pv 1) (pa_cons (pe_ix ix_list (pv 2) pe_int (fun _ _ => rfl)) (pa_cons (pe_ix ix_list (pv 3) pe_int (fun _ _ => rfl)) pa_nil))))) pa_nil)))))) pss_nil)
      (pss_cons (ps_if (pt_cmpR op_eq (pv 5) pe_int (nomark _)) (pss_one (ps_ret (C8.pe_c c_L_paper_of hr (by decide) (by rfl) (pa_cons (pv 0) (pa_cons (pv 1) (pa_cons (pe_lst (pa_cons (pe_ix ix_list (pe_ix ix_tup (pv 0) pe_int (fun _ _ => rfl)) (pe_op op_mod (pe_callTy call_int1 (by rfl) T.int bt_int (pa_cons (pe_ix ix_list (pv 3) pe_int (fun _ _ => rfl)) pa_nil)) (pe_callB call_len_seq (by rfl) T.len bt_len (pa_cons (pe_ix ix_tup (pv 0) pe_int (fun _ _ => rfl)) pa_nil))) (fun _ _ => rfl)) pa_nil)) pa_nil)))))) pss_nil)
      (pss_one (ps_ret (C8.pe_c c_L_paper_of hr (by decide) (by rfl) (pa_cons (pv 0) (pa_cons (pv 1) (pa_cons (C8.pe_c c_L_some_doors hr (by decide) (by rfl) (pa_cons (pv 0) (pa_cons (pe_ix ix_list (pv 3) pe_int (fun _ _ => rfl)) pa_nil))) pa_nil)))))))))), ?_⟩
    obtain ⟨a0, b0, hd, ha0, hb0⟩ := id D0
    have hgl : 0 < gs.length := List.length_pos_iff.mpr g.ne
    obtain ⟨z3, hz3⟩ := ints_at (k := 3) hel (by decide)
    obtain ⟨z4, hz4⟩ := ints_at (k := 4) hel (by decide)
    have at_ : ∀ {H' : Hp} {z : Int} (k : Nat), es[k]? = some z → Ex H H' → RV (rIxL K) (.ref e) (.int (k : Int)) H' (.int z) := fun k hz e' => rv_ixL (SqL.of (e' _ _ he)) (at_int hz)
    have po : ∀ (H1 : Hp) (p' : Addr) (ch : List Int) (E : XK), Nw H H1 → H1 p' = some (.lst (ch.map V.int)) → ch ≠ [] → (∀ x ∈ ch, x ∈ gs) → ch.length ≤ gs.length → spPaperOf [.ref d, .int n, .ref p'] H1 (Rt H Q) E := fun H1 p' ch E nw hp hne hm hl =>
      ⟨nw.nd nd, d, ps, gs, n, p', ch, rfl, D0.ex nw.1, g, hzp, by omega, hn, hp, by omega, fun x hx => g.inn (hm x hx), hne, fun q' H2 c' ls' nw2 pl h1 h2 =>
        rt_nw (nw.trans nw2) (q q' H2 c' ch ls' (nw.trans nw2) (pl.imp fun x hx => fresh_back nw.1 hx) ⟨by omega, by omega, fun l hl' => by have := h2 l hl'; omega⟩)⟩
    refine w_asg (va_op (va_cb (vs_cons (va_op (va_var rfl) va_c (at_ 3 hz3 (Ex.refl H))) vs_nil) rc_int1) va_c (rv_I (show (0 : Int) < 4 by decide))) ?_
    refine w_when (an_test (va_op (va_var rfl) va_c rv_eqI)) (fun _ => ?_) (fun _ => ?_)
    · refine r_ret (r_call ((vs_cons (va_var rfl) vs_nil).go ?_))
      exact ⟨nd, p, c, ds, ls, rfl, px.x, by have := sz.1; omega, by have := sz.2.1; omega, fun q' H2 nw pl => rt_nw nw (q q' H2 c ds ls nw pl sz)⟩
    refine w_when (an_and (an_test (va_op (va_var rfl) va_c rv_eqI)) (fun _ => an_B (va_var rfl))) (fun b => ?_) (fun _ => ?_)
    · rw [Bool.and_eq_true] at b
      obtain ⟨_, xs, hx, a, b', rfl, _⟩ := id px
      refine r_ret (r_call (r_cons ?_))
      refine (va_var rfl).go ?_
      refine r_cons ?_
      refine (va_var rfl).go ?_
      refine r_cons ?_
      refine r_call ((vs_cons (va_var rfl) (vs_cons (va_var rfl) (vs_cons (va_op (va_var rfl) va_c (rv_ixL (SqL.of hx) rfl)) (vs_cons (va_op (va_var rfl) va_c (at_ 4 hz4 (Ex.refl H))) vs_nil)))).go ?_)
      refine ⟨nd, d, ps, gs, n, c, z4, rfl, D0, g, hzp, hsm b.2, hT, fun p' H1 ch nw np hp hne hm hl => r_nil (po H1 p' ch _ nw hp hne hm hl)⟩
    refine w_when (an_test (va_op (va_var rfl) va_c rv_eqI)) (fun _ => ?_) (fun _ => ?_)
    · have m := emod_range (a := z4) (b := (gs.length : Int)) (by omega)
      refine r_ret (r_call (r_cons ?_))
      refine (va_var rfl).go ?_
      refine r_cons ?_
      refine (va_var rfl).go ?_
      refine r_cons ?_
      refine r_lst (r_cons ?_)
      refine Val.go (v := .int (gi gs (z4 % (gs.length : Int)))) (va_op (va_op (va_var rfl) va_c (rv_ixT (SqT.of hd) rfl)) (va_op (va_cb (vs_cons (va_op (va_var rfl) va_c (at_ 4 hz4 (Ex.refl H))) vs_nil) rc_int1) (va_cb (vs_cons (va_op (va_var rfl) va_c (rv_ixT (SqT.of hd) rfl)) vs_nil) (rc_lenLI (SqL.of hb0))) (rv_I (C := fun _ j => 0 < j) (show (0 : Int) < (gs.length : Int) by omega))) (rv_ixL (SqL.of hb0) (at_gi m.1 m.2))) ?_
      refine r_nil ⟨(by show 1 ≤ sizeLine; decide), fun p' np => r_nil ?_⟩
      exact po _ p' [gi gs (z4 % (gs.length : Int))] _ ((Nw.refl H).lst np) upd_same (by simp) (fun x hx => by rw [List.mem_singleton.mp hx]; exact gi_mem m.1 m.2) (by rw [List.length_singleton]; omega)
    · refine r_ret (r_call (r_cons ?_))
      refine (va_var rfl).go ?_
      refine r_cons ?_
      refine (va_var rfl).go ?_
      refine r_cons ?_
      refine r_call ((vs_cons (va_var rfl) (vs_cons (va_op (va_var rfl) va_c (at_ 4 hz4 (Ex.refl H))) vs_nil)).go ?_)
      refine ⟨nd, d, ps, gs, z4, rfl, D0, g.ne, by omega, fun p' ch np hne hm hl _ => r_nil ?_⟩
      exact po _ p' ch _ ((Nw.refl H).lst np) upd_same hne hm hl
end
end Fp

/-! ## G2 -/
set_option Elab.async false
set_option linter.all false
set_option maxRecDepth 100000
set_option maxHeartbeats 4000000
namespace Fp
open PySem L2 Fv
open Evl (Ex Ex.refl Ex.trans Ex.new fresh_back ex_rd ex_l ex_t)
open Fw
local macro_rules | `(tactic| walk_at "va") => `(tactic| first
  | with_reducible exact va_c
  | ((with_reducible apply va_var); exact rfl)
  | with_reducible exact vs_nil
  | ((with_reducible apply vs_cons) <;> walk_at "va")
  | ((with_reducible apply va_op) <;> walk_at "va")
  | ((with_reducible apply va_un) <;> walk_at "va")
  | ((with_reducible apply va_cb) <;> walk_at "va")
  | ((with_reducible apply va_call) <;> walk_at "va")
  | ((with_reducible apply an_test) <;> walk_at "va")
  | ((with_reducible apply an_B) <;> walk_at "va")
  | ((with_reducible apply an_not) <;> walk_at "va")
  | ((with_reducible apply va_chain) <;> walk_at "va")
  | ((with_reducible apply mk_lst) <;> first | walk_at "va" | (show _ ≤ 100000; decide))
  | ((with_reducible apply mk_tup) <;> first | walk_at "va" | (show _ ≤ 100000; decide))
  | ((with_reducible apply mk_cb) <;> walk_at "va")
  | ((with_reducible apply mk_call) <;> walk_at "va")
  | with_reducible exact rv_I0
  | with_reducible exact rv_eqI
  | with_reducible exact rv_neI
  | with_reducible exact ru_neg
  | with_reducible exact rc_int1
  | with_reducible exact rc_abs
  | with_reducible exact rc_max2
  | with_reducible exact rc_min2
  | ((with_reducible apply rc_sum); assumption)
  | ((with_reducible apply rc_lenLI); assumption)
  | ((with_reducible apply rc_lenTI); assumption)
  | ((with_reducible apply rc_lenL); assumption)
  | ((with_reducible apply rc_lenT); assumption)
  | ((with_reducible apply rv_ixL) <;> assumption)
  | ((with_reducible apply rv_ixT) <;> assumption)
  | ((with_reducible apply rv_ixSL) <;> assumption)
  | ((with_reducible apply rv_ixST) <;> assumption)
  | ((with_reducible apply rv_inL); assumption)
  | ((with_reducible apply rv_inT); assumption)
  | ((with_reducible apply rv_ninL); assumption)
  | ((with_reducible apply rv_ninT); assumption)
  | ((with_reducible apply rn_listL); assumption)
  | ((with_reducible apply rn_listT); assumption)
  | ((with_reducible apply rn_tupleL); assumption)
  | assumption)
/-! ### the law -/
def spLaw (K : PySem.W.Frag) : Sp := fun vs H Q _ => ND H ∧ ∃ (a : Addr) (ns : List Int), vs = [.ref a] ∧ SqL K H a (ns.map V.int) ∧ ∀ H', Q (.bl true) H'
theorem best_one {ps gs T U : List Int} {n c e : Int} (h : Best ps gs n c T) (k : Best ps gs n e U) : c = e := by
  have h1 := h.top U k.set
  have h2 := k.top T h.set
  have h3 := h.cost
  have h4 := k.cost
  omega
def Lh (H : Hp) (x : Addr) (n : Nat) : Prop := ∃ xs : List V, H x = some (.lst xs) ∧ xs.length ≤ n
theorem Lh.app {H : Hp} {x y : Addr} {n : Nat} {xs : List V} {v : V} (h : Lh H x n) (hy : H y = some (.lst xs)) (hn : xs.length ≤ n) : Lh (upd H y (.lst (xs ++ [v]))) x (n + 1) := by
  by_cases e : x = y
  · subst e
    exact ⟨_, upd_same, by rw [List.length_append, List.length_singleton]; omega⟩
  · obtain ⟨zs, h1, h2⟩ := h
    exact ⟨zs, by rw [upd_ne e]; exact h1, by omega⟩
theorem nd_app {H : Hp} {y : Addr} {xs : List V} (h : ND H) : ND (upd H y (.lst xs)) := nd_lst h
theorem ex_app {H0 H : Hp} {y : Addr} {o : HO} (e : Ex H0 H) (n : H0 y = none) : Ex H0 (upd H y o) := fun x u h => by
  have : x ≠ y := fun e => by rw [e, n] at h; cases h
  rw [upd_ne this]
  exact e x u h
section
variable {K : PySem.W.Frag} {σ : L2.St} {H : Hp} {ta tb te : TE} {D : Ends} {tz : TS} {Q : VK} {l : Addr} {xs : List V} {o : HO}
theorem r_andV (h : ta σ H fun x H1 => ∃ c, x = .bl c ∧ if c = true then tb σ H1 Q else Q (.bl false) H1) : tAndV ta tb σ H Q := h
theorem w_cut {tu : TS} (N : L2.St → Hp → Prop) (h : (∀ σ' H', N σ' H' → tz D σ' H') → tSeq tu tz D σ H) (k : ∀ σ' H', N σ' H' → tz D σ' H') : tSeq tu tz D σ H := h k
theorem w_appN (h : Mkn te σ H o) (ha : Val ta σ H (.ref l)) (hl : H l = some (.lst xs)) (hz : xs.length < 100000) (k : ∀ p, H p = none → tz D σ (upd (upd H p o) l (.lst (xs ++ [.ref p])))) : tSeq (tDrop (tBM K "list" rAppend ta (tCons te tNil))) tz D σ H :=
  ha _ ⟨.inl ⟨rfl, xs, .inl (.inl hl)⟩, h _ fun p np => ⟨l, xs, .ref p, rfl, rfl, by rw [upd_ne (ne_of_none hl np)]; exact hl, Nat.lt_of_lt_of_le hz (by decide), k p np⟩⟩
end
section
variable {P : Program} {w : World} {K : PySem.W.Frag} {mg : Str → Option Value} {base : Heap} {C f : Addr} {fd : FuncData}
theorem ok_law (T : Txt K mg C) (F : Fun K "law" "law" s_law f fd) (c_L_digits : C8.Cal P w K mg base 1 "_law_digits" spDigits []) (c_L_seed : C8.Cal P w K mg base 2 "_law_seed" (spCell K) []) (c_L_drawn : C8.Cal P w K mg base 2 "_law_drawn" spDrawn []) (c_L_made : C8.Cal P w K mg base 4 "_law_made" (spMade C) [])
    (c_P_few_paper : C8.Cal P w K mg base 7 "few_paper" (spFewPaper C) []) (c_L_is_paper : C8.Cal P w K mg base 3 "_law_is_paper" spIsPaper []) (c_L_holds : C8.Cal P w K mg base 4 "_law_holds" spHolds []) (c_L_best : C8.Cal P w K mg base 4 "_law_best" spBest []) (c_L_copied : C8.Cal P w K mg base 1 "_law_copied" spCopied [])
    (c_L_made_paper : C8.Cal P w K mg base 5 "_law_made_paper" spMadePaper []) (c_L_checks : C8.Cal P w K mg base 7 "_law_checks" (spChecks C) []) (c_L_spoil : C8.Cal P w K mg base 3 "_law_spoil" spSpoil []) (c_P_check_few : C8.Cal P w K mg base 6 "check_few" (spCheckFew C) []) (c_P_few_cost : C8.Cal P w K mg base 6 "few_cost" (spFewCost C) [])
    (c_L_ints : C8.Cal P w K mg base 2 "_law_ints" spInts []) (c_L_is_set : C8.Cal P w K mg base 1 "_law_is_set" spLSet []) (c_L_cost : C8.Cal P w K mg base 3 "_law_cost" spLCost []) (c_L_is_int : C8.Cal P w K mg base 1 "_law_is_int" spIsInt []) :
    FnOk P w K mg base CX0 8 f fd ["_law_script"] (spLaw K) := by
  refine F.ok sc_law (fun vs H Q E h => ?_) (fun cdv A outer s0 H vs Q E hr h => ?_)
  · obtain ⟨_, s, ns, rfl, _⟩ := h
    rfl
  · obtain ⟨nd, s, ns, rfl, hs, q⟩ := h
    refine ⟨_, (pss_cons (ps_set (i := 1) sc_law.nd rfl (Or.inl rfl) (C8.pe_c c_L_digits hr (by decide) (by rfl) (pa_cons (C8.pe_c c_L_seed hr (by decide) (by rfl) (pa_cons (pv 0) (pa_cons pe_int pa_nil))) (pa_cons pe_int (pa_cons pe_int pa_nil)))))
      (pss_cons (ps_set (i := 2) sc_law.nd rfl (Or.inl rfl) (pe_cmpR op_ne (pe_op op_mod (pe_callTy call_int1 (by rfl) T.int bt_int (pa_cons (pe_ix ix_list (pv 1) pe_int (fun _ _ => rfl)) pa_nil)) pe_int) pe_int (nomark _)))
      (pss_cons (ps_set (i := 3) sc_law.nd rfl (Or.inl rfl) (C8.pe_c c_L_drawn hr (by decide) (by rfl) (pa_cons (C8.pe_c c_L_seed hr (by decide) (by rfl) (pa_cons (pv 0) (pa_cons pe_int pa_nil))) (pa_cons pe_int (pa_cons pe_int pa_nil)))))
      (pss_cons (ps_if (pt_not (pt_val (pv 2))) (pss_one (ps_set (i := 3) sc_law.nd rfl (Or.inl rfl) (C8.pe_c c_L_drawn hr (by decide) (by rfl) (pa_cons (C8.pe_c c_L_seed hr (by decide) (by rfl) (pa_cons (pv 0) (pa_cons pe_int pa_nil))) (pa_cons pe_int (pa_cons pe_int pa_nil)))))) pss_nil)
      (pss_cons (ps_set (i := 4) sc_law.nd rfl (Or.inl rfl) (pe_op op_add pe_int (pe_op op_mod (pe_callTy call_int1 (by rfl) T.int bt_int (pa_cons (pe_ix ix_list (pv 1) pe_int (fun _ _ => rfl)) pa_nil)) pe_int)))
      (pss_cons (ps_if (pt_cmpR op_eq (pe_op op_mod (pe_callTy call_int1 (by rfl) T.int bt_int (pa_cons (pe_op op_fdiv (pe_ix ix_list (pv 1) pe_int (fun _ _ => rfl)) pe_int) pa_nil)) pe_int) pe_int (nomark _)) (pss_one (ps_set (i := 4) sc_law.nd rfl (Or.inl rfl) (pe_op op_add pe_int (pe_op op_mod (pe_callTy call_int1 (by rfl) T.int bt_int (pa_cons (pe_op op_fdiv (pe_ix ix_list (pv 1) pe_int (fun _ _ => rfl)) pe_int) pa_nil)) pe_int)))) pss_nil)
      (pss_cons (ps_set (i := 5) sc_law.nd rfl (Or.inl rfl) (C8.pe_c c_L_made hr (by decide) (by rfl) (pa_cons (pv 3) (pa_cons (pe_ix ix_list (pv 1) pe_int (fun _ _ => rfl)) pa_nil))))
      (pss_cons (ps_set (i := 6) sc_law.nd rfl (Or.inl rfl) (C8.pe_c c_P_few_paper hr (by decide) (by rfl) (pa_cons (pv 5) (pa_cons (pv 4) pa_nil))))
      (pss_cons (ps_if (PW.pt (pw_or (pt_not (pt_val (C8.pe_c c_L_is_paper hr (by decide) (by rfl) (pa_cons (pv 6) pa_nil)))) (pw_or1 (pt_not (pt_val (C8.pe_c c_L_holds hr (by decide) (by rfl) (pa_cons (pv 3) (pa_cons (pv 4) (pa_cons (pv 6) pa_nil))))))))) (pss_one (ps_ret pe_bl)) pss_nil)
      (pss_cons (ps_if (PW.pt (pw_and (pt_val (pv 2)) (pw_and1 (pt_cmpR op_ne (pe_ix ix_tup (pv 6) pe_int (fun _ _ => rfl)) (pe_ix ix_list (C8.pe_c c_L_best hr (by decide) (by rfl) (pa_cons (pe_ix ix_tup (pv 3) pe_int (fun _ _ => rfl)) (pa_cons (pe_ix ix_tup (pv 3) pe_int (fun _ _ => rfl)) pa_nil))) (pe_callB (call_min2 rfl) (by rfl) T.min bt_min (pa_cons (pv 4) (pa_cons (pe_callB call_len_seq (by rfl) T.len bt_len (pa_cons (pe_ix ix_tup (pv 3) pe_int (fun _ _ => rfl)) pa_nil)) pa_nil))) (fun _ _ => rfl)) (nomark _))))) (pss_one (ps_ret pe_bl)) pss_nil)
      (pss_cons (ps_set (i := 7) sc_law.nd rfl (Or.inl rfl) (C8.pe_c c_L_copied hr (by decide) (by rfl) (pa_cons (pv 6) pa_nil)))
      (pss_cons (ps_set (i := 8) sc_law.nd rfl (Or.inl rfl) (C8.pe_c c_L_made_paper hr (by decide) (by rfl) (pa_cons (pv 3) (pa_cons (pv 4) (pa_cons (pv 7) (pa_cons (pv 1) (pa_cons (pv 2) pa_nil)))))))
      (pss_cons (ps_if (PW.pt (pw_or (pt_not (pt_val (C8.pe_c c_L_checks hr (by decide) (by rfl) (pa_cons (pv 5) (pa_cons (pv 3) (pa_cons (pv 4) (pa_cons (pv 7) pa_nil))))))) (pw_or1 (pt_not (pt_val (C8.pe_c c_L_checks hr (by decide) (by rfl) (pa_cons (pv 5) (pa_cons (pv 3) (pa_cons (pv 4) (pa_cons (pv 8) pa_nil)))))))))) (pss_one (ps_ret pe_bl)) pss_nil)
      (pss_cons (ps_for PassesOwn.never rfl (pi_range1 (by rfl) T.range (pa_cons pe_int pa_nil)) (pg_name (i := 9) sc_law.nd rfl (Or.inl rfl)) (pss_cons (ps_set (i := 10) sc_law.nd rfl (Or.inl rfl) (C8.pe_c c_L_spoil hr (by decide) (by rfl) (pa_cons (pv 3) (pa_cons (pv 8) (pa_cons (pe_ix ix_list (pv 1) (pe_op op_add pe_int (pe_op op_mul pe_int (pv 9))) (fun _ _ => rfl)) (pa_cons (pe_ix ix_list (pv 1) (pe_op op_add pe_int (pe_op op_mul pe_int (pv 9))) (fun _ _ => rfl)) pa_nil))))))
        (pss_cons (ps_if (pt_not (pt_val (C8.pe_c c_L_checks hr (by decide) (by rfl) (pa_cons (pv 5) (pa_cons (pv 3) (pa_cons (pv 4) (pa_cons (pv 10) pa_nil))))))) (pss_one (ps_ret pe_bl)) pss_nil)
        (pss_one (ps_if (pt_cmpR op_eq (pe_op op_mod (pv 9) pe_int) pe_int (nomark _)) (pss_cons (ps_set (i := 10) sc_law.nd rfl (Or.inl rfl) (C8.pe_c c_L_spoil hr (by decide) (by rfl) (pa_cons (pv 3) (pa_cons (pv 10) (pa_cons (pe_ix ix_list (pv 1) (pe_op op_add pe_int (pe_op op_mul pe_int (pv 9))) (fun _ _ => rfl)) (pa_cons (pe_ix ix_list (pv 1) (pe_op op_add pe_int (pe_op op_mul pe_int (pv 9))) (fun _ _ => rfl)) pa_nil))))))
          (pss_one (ps_if (pt_not (pt_val (C8.pe_c c_L_checks hr (by decide) (by rfl) (pa_cons (pv 5) (pa_cons (pv 3) (pa_cons (pv 4) (pa_cons (pv 10) pa_nil))))))) (pss_one (ps_ret pe_bl)) pss_nil))) pss_nil)))))
      (pss_cons (ps_set (i := 11) sc_law.nd rfl (Or.inl rfl) (pe_ix ix_list (pe_ix ix_tup (pv 6) pe_int (fun _ _ => rfl)) pe_int (fun _ _ => rfl)))
      (pss_cons (ps_expr (pe_bm PySem.F.plainAttrs_list PySem.F.slot_list_append PySem.F.type_list_append mt_append (pv 11) (pa_cons (pe_un un_neg pe_int) pa_nil)))
      (pss_cons (ps_expr (pe_bm PySem.F.plainAttrs_list PySem.F.slot_list_append PySem.F.type_list_append mt_append (pe_ix ix_tup (pv 6) pe_int (fun _ _ => rfl)) (pa_cons (pe_un un_neg pe_int) pa_nil)))
      (pss_cons (ps_expr (pe_bm PySem.F.plainAttrs_list PySem.F.slot_list_append PySem.F.type_list_append mt_append (pe_ix ix_tup (pv 6) pe_int (fun _ _ => rfl)) (pa_cons (pe_lst pa_nil) pa_nil)))
      (pss_cons (ps_set (i := 12) sc_law.nd rfl (Or.inl rfl) (pe_op op_add pe_int (pe_op op_mod (pe_callTy call_int1 (by rfl) T.int bt_int (pa_cons (pe_ix ix_list (pv 1) pe_int (fun _ _ => rfl)) pa_nil)) pe_int)))
      (pss_cons (ps_set (i := 13) sc_law.nd rfl (Or.inl rfl) (C8.pe_c c_P_few_paper hr (by decide) (by rfl) (pa_cons (pv 5) (pa_cons (pv 12) pa_nil))))
      (pss_cons (ps_if (PW.pt (pw_or (pt_not (pt_val (C8.pe_c c_L_is_paper hr (by decide) (by rfl) (pa_cons (pv 13) pa_nil)))) (pw_or (pt_not (pt_val (C8.pe_c c_L_holds hr (by decide) (by rfl) (pa_cons (pv 3) (pa_cons (pv 12) (pa_cons (pv 13) pa_nil)))))) (pw_or1 (pt_cmpR op_notBl (C8.pe_c c_P_check_few hr (by decide) (by rfl) (pa_cons (pv 5) (pa_cons (pv 12) (pa_cons (pv 13) pa_nil)))) pe_bl (nomark _)))))) (pss_one (ps_ret pe_bl)) pss_nil)
      (pss_cons (ps_set (i := 14) sc_law.nd rfl (Or.inl rfl) (C8.pe_c c_P_few_paper hr (by decide) (by rfl) (pa_cons (pv 5) (pa_cons (pv 4) pa_nil))))
      (pss_cons (ps_asg (C8.pe_c c_P_few_cost hr (by decide) (by rfl) (pa_cons (pv 5) (pa_cons (pv 4) pa_nil))) (pg_tup (by rfl) (pgs_cons (pg_name (i := 15) sc_law.nd rfl (Or.inl rfl)) (pgs_cons (pg_name (i := 16) sc_law.nd rfl (Or.inl rfl)) pgs_nil))))
      (pss_cons (ps_if (PW.pt (pw_or (pt_not (pt_val (C8.pe_c c_L_ints hr (by decide) (by rfl) (pa_cons (pv 16) pa_nil)))) (pw_or (pt_not (pt_val (C8.pe_c c_L_is_set hr (by decide) (by rfl) (pa_cons (pe_ix ix_tup (pv 3) pe_int (fun _ _ => rfl)) (pa_cons (pv 4) (pa_cons (pv 16) pa_nil)))))) (pw_or1 (pt_cmpR op_ne (C8.pe_c c_L_cost hr (by decide) (by rfl) (pa_cons (pe_ix ix_tup (pv 3) pe_int (fun _ _ => rfl)) (pa_cons (pv 16) pa_nil))) (pv 15) (nomark _)))))) (pss_one (ps_ret pe_bl)) pss_nil)
      (pss_cons (ps_if (PW.pt (pw_or (pt_not (pt_val (C8.pe_c c_L_is_paper hr (by decide) (by rfl) (pa_cons (pv 14) pa_nil)))) (pw_or (pt_not (pt_val (C8.pe_c c_L_holds hr (by decide) (by rfl) (pa_cons (pv 3) (pa_cons (pv 4) (pa_cons (pv 14) pa_nil)))))) (pw_or1 (pt_cmpR op_ne (pe_ix ix_tup (pv 14) pe_int (fun _ _ => rfl)) (pe_ix ix_list (pv 7) pe_int (fun _ _ => rfl)) (nomark _)))))) (pss_one (ps_ret pe_bl)) pss_nil)
      (pss_cons (ps_if (PW.pt (pw_or (pt_not (pt_val (C8.pe_c c_L_is_int hr (by decide) (by rfl) (pa_cons (pv 15) pa_nil)))) (pw_or1 (pt_cmpR op_ne (pv 15) (pe_ix ix_list (pv 7) pe_int (fun _ _ => rfl)) (nomark _))))) (pss_one (ps_ret pe_bl)) pss_nil)
      (pss_one (ps_ret (pe_and (pe_cmpR (op_eqD hr.units) (pe_fld (pv 5) rfl) (pe_callTy call_tuple_of (by rfl) T.tuple bt_tuple (pa_cons (pe_ix ix_tup (pv 3) pe_int (fun _ _ => rfl)) pa_nil)) (nomark _)) (pe_one (pe_cmpR (op_eqD hr.units) (pe_fld (pv 5) rfl) (pe_callTy call_tuple_of (by rfl) T.tuple bt_tuple (pa_cons (pe_ix ix_tup (pv 3) pe_int (fun _ _ => rfl)) pa_nil)) (nomark _)))))))))))))))))))))))))))))))), ?_⟩
    -- the choices
    refine r_seq (r_asg (r_call (r_cons ?_)))
    refine r_call ((vs_cons (va_var rfl) (vs_cons va_c vs_nil)).go ?_)
    refine ⟨nd, s, ns, 1, rfl, hs, fun c1 => ?_⟩
    refine (vs_cons va_c (vs_cons va_c vs_nil)).go ?_
    refine ⟨nd, c1, 55440, 32, rfl, by decide, ⟨by decide, by decide⟩, fun e es ne hel hed => ?_⟩
    refine r_nm ?_
    have e1 : Nw H (upd H e (.lst (es.map V.int))) := (Nw.refl H).lst ne
    have he1 : (upd H e (.lst (es.map V.int))) e = some (.lst (es.map V.int)) := upd_same
    generalize (upd H e (.lst (es.map V.int))) = H1 at e1 he1
    have at_ : ∀ {H' : Hp} {z : Int} (k : Nat), es[k]? = some z → Ex H1 H' → RV (rIxL K) (.ref e) (.int (k : Int)) H' (.int z) := fun k hz e' => rv_ixL (SqL.of (e' _ _ he1)) (at_int hz)
    obtain ⟨z0, hz0⟩ := ints_at (k := 0) hel (by decide)
    obtain ⟨z1, hz1⟩ := ints_at (k := 1) hel (by decide)
    obtain ⟨z2, hz2⟩ := ints_at (k := 2) hel (by decide)
    obtain ⟨z5, hz5⟩ := ints_at (k := 5) hel (by decide)
    refine w_asg (va_op (va_op (va_cb (vs_cons (va_op (va_var rfl) va_c (at_ 0 hz0 (Ex.refl _))) vs_nil) rc_int1) va_c (rv_I (show (0 : Int) < 8 by decide))) va_c rv_neI) ?_
    generalize (!decide (z0 % 8 = 5)) = sm
    -- the ring
    refine r_seq (r_asg (r_call (r_cons ?_)))
    refine r_call ((vs_cons (va_var rfl) (vs_cons va_c vs_nil)).go ?_)
    refine ⟨e1.nd nd, s, ns, 0, rfl, ex_l e1.1 hs, fun c2 => ?_⟩
    refine (vs_cons va_c (vs_cons va_c vs_nil)).go ?_
    refine ⟨e1.nd nd, c2, 12, 6, rfl, by decide, by decide, fun d H2 ps gs n2 D2 g hpl hgl => ?_⟩
    refine r_nm ?_
    refine w_whenC (fun σ' H' => ∃ (d : Addr) (ps gs : List Int), σ' = [some (.ref s), some (.ref e), some (.bl sm), some (.ref d), none, none, none, none, none, none, none, none, none, none, none, none, none] ∧ Nw H1 H' ∧ Dra H' d ps gs ∧ Good ps gs ∧ ps.length ≤ 40 ∧ gs.length ≤ 24 ∧ (sm = true → gs.length ≤ 12))
      (an_not (an_B (va_var rfl))) (fun _ kk => ?_) (fun _ => ⟨d, ps, gs, rfl, n2, D2, g, by omega, by omega, fun _ => by omega⟩) ?_
    · rename_i hsm
      have hsm : sm = false := by simpa using hsm
      refine r_asg (r_call (r_cons ?_))
      refine r_call ((vs_cons (va_var rfl) (vs_cons va_c vs_nil)).go ?_)
      refine ⟨n2.nd (e1.nd nd), s, ns, 0, rfl, ex_l n2.1 (ex_l e1.1 hs), fun c2 => ?_⟩
      refine (vs_cons va_c (vs_cons va_c vs_nil)).go ?_
      refine ⟨n2.nd (e1.nd nd), c2, 40, 24, rfl, by decide, by decide, fun d H3 ps gs n3 D3 g hpl hgl => ?_⟩
      exact kk _ _ ⟨d, ps, gs, rfl, n2.trans n3, D3, g, hpl, hgl, fun z => by rw [hsm] at z; cases z⟩
    clear n2 D2 g hpl hgl
    rintro σ' H2 ⟨d, ps, gs, rfl, n2, D2, g, hpl, hgl, hsmall⟩
    -- the count
    refine w_asg (va_op va_c (va_op (va_cb (vs_cons (va_op (va_var rfl) va_c (at_ 1 hz1 n2.1)) vs_nil) rc_int1) va_c (rv_I (show (0 : Int) < 9 by decide))) rv_I0) ?_
    refine w_whenC (fun σ' H' => ∃ n : Int, σ' = [some (.ref s), some (.ref e), some (.bl sm), some (.ref d), some (.int n), none, none, none, none, none, none, none, none, none, none, none, none] ∧ H' = H2 ∧ 1 ≤ n)
      (an_test (va_op (va_op (va_cb (vs_cons (va_op (va_op (va_var rfl) va_c (at_ 1 hz1 n2.1)) va_c (rv_I (cdivP (by decide) (by decide)))) vs_nil) rc_int1) va_c (rv_I (show (0 : Int) < 2 by decide))) va_c rv_eqI)) (fun _ kk => ?_) (fun _ => ⟨_, rfl, rfl, by have := (emod_range (a := z1) (b := 9) (by decide)).1; omega⟩) ?_
    · refine e_asg (va_op va_c (va_op (va_cb (vs_cons (va_op (va_op (va_var rfl) va_c (at_ 1 hz1 n2.1)) va_c (rv_I (cdivP (by decide) (by decide)))) vs_nil) rc_int1) va_c (rv_I (show (0 : Int) < 3 by decide))) rv_I0) ?_
      exact kk _ _ ⟨_, rfl, rfl, by have := (emod_range (a := z1 / 18) (b := 3) (by decide)).1; omega⟩
    rintro σ' H' ⟨n, rfl, rfl, hn⟩
    have nd2 := n2.nd (e1.nd nd)
    -- the ring is made
    refine r_seq (r_asg (r_call ((vs_cons (va_var rfl) (vs_cons (va_op (va_var rfl) va_c (at_ 2 hz2 n2.1)) vs_nil)).go ?_)))
    refine ⟨nd2, d, z2, ps, gs, rfl, D2, g, by omega, fun r H6 n6 R => ?_⟩
    refine r_nm ?_
    have D6 := D2.ex n6.1
    have nd6 := n6.nd nd2
    have he6 := n6.1 _ _ (n2.1 _ _ he1)
    have at6 : ∀ {H' : Hp} {z : Int} (k : Nat), es[k]? = some z → Ex H6 H' → RV (rIxL K) (.ref e) (.int (k : Int)) H' (.int z) := fun k hz e' => rv_ixL (SqL.of (e' _ _ he6)) (at_int hz)
    clear at_ n2 n6 e1
    -- the certificate is told
    refine r_seq (r_asg (r_call ((vs_cons (va_var rfl) (vs_cons (va_var rfl) vs_nil)).go ?_)))
    refine ⟨nd6, r, ps, gs, n, rfl, R, g, by omega, hn, fun p H7 c U hB e7 c7 pt => ?_⟩
    refine r_nm ?_
    have n7 : Nw H6 H7 := ⟨e7, c7⟩
    have acc := best_acc g hn hB
    have lsl : (gs.map (leapsM ps gs (W ps - c - 1) n)).length = gs.length := List.length_map ..
    have lrl : ∀ l ∈ gs.map (leapsM ps gs (W ps - c - 1) n), l.length ≤ 24 := fun l hl => by
      obtain ⟨y, hy, rfl⟩ := List.mem_map.mp hl
      have := leapsM_len (ps := ps) (L := W ps - c - 1) (n := n) hy
      omega
    have ul := set_len g hB.set
    have hold : ∀ {H' : Hp} {p' : Addr} {c' n' : Int} {U' : List Int} {N : Addr → Prop}, Nw H6 H' → 1 ≤ n' → Best ps gs n' c' U' → PapT N H' p' c' U' (gs.map (leapsM ps gs (W ps - c' - 1) n')) → SV spHolds [.ref d, .int n', .ref p'] H' (.bl true) := fun nw hn' hB' pt' Q E k =>
      ⟨nw.nd nd6, d, ps, gs, _, _, _, _, _, rfl, D6.ex nw.1, g, by omega, by omega, hn', pt'.x, by have := set_len g hB'.set; omega, by rw [List.length_map]; omega, fun b hb => by rw [hb.mpr (best_acc g hn' hB')]; exact k⟩
    obtain ⟨a0, b0, hd, ha0, hb0⟩ := id D6
    obtain ⟨np, xs, hp, a, b, rfl, na, ha, L⟩ := id pt
    obtain ⟨nb, as, hb, hal, hat⟩ := id L
    have hgp : 0 < gs.length := List.length_pos_iff.mpr g.ne
    refine w_when (b := false) (an_is (an_or (an_not (an_B (va_call (z := .bl true) (vs_cons (va_var rfl) vs_nil) (fun Q E k => ⟨n7.nd nd6, p, _, _, _, rfl, pt.tt, k⟩)))) fun _ => an_not (an_B (va_call (vs_cons (va_var rfl) (vs_cons (va_var rfl) (vs_cons (va_var rfl) vs_nil))) (hold n7 hn hB pt)))) rfl) (fun z => by cases z) (fun _ => ?_)
    refine w_cut (fun σ' H' => σ' = [some (.ref s), some (.ref e), some (.bl sm), some (.ref d), some (.int n), some (.ref r), some (.ref p), none, none, none, none, none, none, none, none, none, none] ∧ Nw H7 H') (fun kk => ?_) ?_
    · cases sm with
      | false => exact w_when (b := false) (an_is (an_and (c := false) (an_B (va_var rfl)) (fun z => by cases z)) rfl) (fun z => by cases z) (fun _ => kk _ _ ⟨rfl, Nw.refl _⟩)
      | true =>
        refine r_seq (r_if (r_and ((an_B (va_var rfl)).go ?_)))
        refine iteT (r_test (r_op ?_))
        refine (va_op (va_var rfl) va_c (rv_ixT (SqT.of hp) rfl)).go ?_
        refine r_op (r_call ?_)
        refine VAs.go (vs := [.ref a0, .ref b0]) (vs_cons (va_op (va_var rfl) va_c (rv_ixT (SqT.of (e7 _ _ hd)) rfl)) (vs_cons (va_op (va_var rfl) va_c (rv_ixT (SqT.of (e7 _ _ hd)) rfl)) vs_nil)) ?_
        refine ⟨n7.nd nd6, a0, b0, ps, gs, rfl, e7 _ _ ha0, e7 _ _ hb0, g, by omega, hsmall rfl, fun bq H8 bs n8 nbq hbq hbl hbest => ?_⟩
        refine Val.go (v := .int (min n (gs.length : Int))) (va_cb (vs_cons (va_var rfl) (vs_cons (va_cb (vs_cons (va_op (va_var rfl) va_c (rv_ixT (SqT.of (n8.1 _ _ (e7 _ _ hd))) rfl)) vs_nil) (rc_lenLI (SqL.of (n8.1 _ _ (e7 _ _ hb0))))) vs_nil)) rc_min2) ?_
        refine (rv_ixL (SqL.of hbq) (at_gi (show 0 ≤ min n (gs.length : Int) by omega) (by omega))).go ?_
        rw [hbest n c U hn hB]
        refine rv_neI.go ⟨_, rfl, ?_⟩
        rw [decide_eq_true rfl]
        exact iteF (kk _ _ ⟨rfl, n8⟩)
    rintro σ' H8 ⟨rfl, n8⟩
    -- its copy, the certificate of the draw
    have n68 := n7.trans n8
    refine r_seq (r_asg (r_call ((vs_cons (va_var rfl) vs_nil).go ?_)))
    refine ⟨n68.nd nd6, p, c, U, _, rfl, pt.x.ex n8.1, by omega, by omega, fun fq H9 n9 pf => ?_⟩
    refine r_nm ?_
    have n69 := n68.trans n9
    obtain ⟨nf, fx, hf, fa, fb, rfl, _⟩ := id pf
    have nf7 : H7 fq = none := fresh_back n8.1 nf
    refine r_seq (r_asg (r_call ((vs_cons (va_var rfl) (vs_cons (va_var rfl) (vs_cons (va_var rfl) (vs_cons (va_var rfl) (vs_cons (va_var rfl) vs_nil))))).go ?_)))
    refine ⟨n69.nd nd6, d, fq, e, ps, gs, es, n, c, U, _, sm, rfl, D6.ex n69.1, g, by omega, by omega, hn, pf.tt, ⟨by omega, by omega, fun l hl => by have := lrl l hl; omega⟩, ⟨U, hB.set, hB.cost⟩, hsmall, n69.1 _ _ he6, hel, fun pq H10 c' ds' ls' n10 pp sz => ?_⟩
    refine r_nm ?_
    have n610 := n69.trans n10
    have chk : ∀ {H' : Hp} {p' : Addr} {c1 : Int} {d1 : List Int} {l1 : List (List Int)} {N : Addr → Prop}, Nw H6 H' → PapL N H' p' c1 d1 l1 → d1.length ≤ 1000 → l1.length ≤ 1000 → SV (spChecks C) [.ref r, .ref d, .int n, .ref p'] H' (.bl true) := fun nw pl h1 h2 Q E k =>
      ⟨nw.nd nd6, r, d, _, ps, gs, n, _, _, _, rfl, R.ex nw.1, D6.ex nw.1, g, by omega, by omega, hn, pl.tt, h1, h2, k⟩
    refine w_when (b := false) (an_is (an_or (an_not (an_B (va_call (vs_cons (va_var rfl) (vs_cons (va_var rfl) (vs_cons (va_var rfl) (vs_cons (va_var rfl) vs_nil)))) (chk n610 (pf.ex n10.1) (by omega) (by omega))))) fun _ => an_not (an_B (va_call (vs_cons (va_var rfl) (vs_cons (va_var rfl) (vs_cons (va_var rfl) (vs_cons (va_var rfl) vs_nil)))) (chk n610 pp (by have := sz.1; omega) (by have := sz.2.1; omega))))) rfl) (fun z => by cases z) (fun _ => ?_)
    refine w_forR (n := 5) (vs_cons va_c vs_nil) (by decide) (fun i σ' H' => (∃ v1 v2 : Option V, σ' = [some (.ref s), some (.ref e), some (.bl sm), some (.ref d), some (.int n), some (.ref r), some (.ref p), some (.ref fq), some (.ref pq), v1, v2, none, none, none, none, none, none]) ∧ Nw H10 H') ⟨⟨none, none, rfl⟩, Nw.refl _⟩ ?_ ?_
    · rintro i σ' H11 hi ⟨⟨v1, v2, rfl⟩, n11⟩
      have n611 := n610.trans n11
      obtain ⟨y1, hy1⟩ := ints_at (k := 8 + 2 * i) hel (by omega)
      obtain ⟨y2, hy2⟩ := ints_at (k := 9 + 2 * i) hel (by omega)
      obtain ⟨y3, hy3⟩ := ints_at (k := 18 + 2 * i) hel (by omega)
      obtain ⟨y4, hy4⟩ := ints_at (k := 19 + 2 * i) hel (by omega)
      refine r_seq (r_asg (r_call ?_))
      refine VAs.go (vs := [.ref d, .ref pq, .int y1, .int y2]) (vs_cons (va_var rfl) (vs_cons (va_var rfl) (vs_cons (va_op (va_var rfl) (va_is (va_op va_c (va_op va_c (va_var rfl) (rv_I (.inl (by decide)))) rv_I0) (congrArg V.int (show (8 : Int) + 2 * (i : Int) = ((8 + 2 * i : Nat) : Int) by omega))) (at6 _ hy1 n611.1)) (vs_cons (va_op (va_var rfl) (va_is (va_op va_c (va_op va_c (va_var rfl) (rv_I (.inl (by decide)))) rv_I0) (congrArg V.int (show (9 : Int) + 2 * (i : Int) = ((9 + 2 * i : Nat) : Int) by omega))) (at6 _ hy2 n611.1)) vs_nil)))) ?_
      refine ⟨n611.nd nd6, d, ps, gs, pq, y1, y2, c', ds', ls', 60, rfl, D6.ex n611.1, g, (pp.ex n11.1).x, sz, by decide, fun sq H12 c2 ds2 ls2 n12 ps2 sz2 => ?_⟩
      refine r_nm ?_
      have n612 := n611.trans n12
      refine w_when (b := false) (an_not (an_B (va_call (z := .bl true) (vs_cons (va_var rfl) (vs_cons (va_var rfl) (vs_cons (va_var rfl) (vs_cons (va_var rfl) vs_nil)))) (chk n612 ps2 (by have := sz2.1; omega) (by have := sz2.2.1; omega))))) (fun z => by cases z) (fun _ => ?_)
      refine e_when (an_test (va_op (va_op (va_var rfl) va_c (rv_I (show (0 : Int) < 2 by decide))) va_c rv_eqI)) (fun _ => ?_) (fun _ => ⟨⟨_, _, rfl⟩, n11.trans n12⟩)
      refine r_seq (r_asg (r_call ?_))
      refine VAs.go (vs := [.ref d, .ref sq, .int y3, .int y4]) (vs_cons (va_var rfl) (vs_cons (va_var rfl) (vs_cons (va_op (va_var rfl) (va_is (va_op va_c (va_op va_c (va_var rfl) (rv_I (.inl (by decide)))) rv_I0) (congrArg V.int (show (18 : Int) + 2 * (i : Int) = ((18 + 2 * i : Nat) : Int) by omega))) (at6 _ hy3 n612.1)) (vs_cons (va_op (va_var rfl) (va_is (va_op va_c (va_op va_c (va_var rfl) (rv_I (.inl (by decide)))) rv_I0) (congrArg V.int (show (19 : Int) + 2 * (i : Int) = ((19 + 2 * i : Nat) : Int) by omega))) (at6 _ hy4 n612.1)) vs_nil)))) ?_
      refine ⟨n612.nd nd6, d, ps, gs, sq, y3, y4, c2, ds2, ls2, 3 * 60 + 3, rfl, D6.ex n612.1, g, ps2.x, sz2, by decide, fun sq2 H13 c3 ds3 ls3 n13 ps3 sz3 => ?_⟩
      refine r_nm ?_
      refine e_when (b := false) (an_not (an_B (va_call (z := .bl true) (vs_cons (va_var rfl) (vs_cons (va_var rfl) (vs_cons (va_var rfl) (vs_cons (va_var rfl) vs_nil)))) (chk (n612.trans n13) ps3 (by have := sz3.1; omega) (by have := sz3.2.1; omega))))) (fun z => by cases z) (fun _ => ?_)
      exact ⟨⟨_, _, rfl⟩, (n11.trans n12).trans n13⟩
    rintro σ' H11 ⟨⟨v1, v2, rfl⟩, n11⟩
    -- what was told is changed
    have n711 := ((n8.trans n9).trans n10).trans n11
    have n611 := n7.trans n711
    have hl0 : (gs.map (leapsM ps gs (W ps - c - 1) n))[0]? = some (gs.map (leapsM ps gs (W ps - c - 1) n))[0] := List.getElem?_eq_getElem (by omega)
    generalize hl0e : (gs.map (leapsM ps gs (W ps - c - 1) n))[0]'_ = l0 at hl0
    obtain ⟨ra, ra1, nra, hra⟩ := hat 0 l0 hl0
    have hl0l := lrl l0 (List.mem_of_getElem? hl0)
    have hp11 := n711.1 _ _ hp
    have hf11 := n11.1 _ _ (n10.1 _ _ hf)
    have hra11 := n711.1 _ _ hra
    have ha11 := n711.1 _ _ ha
    have hb11 := n711.1 _ _ hb
    refine w_asg (va_op (va_op (va_var rfl) va_c (rv_ixT (SqT.of hp11) rfl)) va_c (rv_ixL (SqL.of hb11) (refs_at (i := 0) ra1))) ?_
    refine w_app hra11 (va_var rfl) (va_un va_c ru_neg) (by rw [List.length_map]; omega) ?_
    have la : Lh H11 a 24 := ⟨_, ha11, by rw [List.length_map]; omega⟩
    have lb : Lh H11 b 24 := ⟨_, hb11, by rw [List.length_map]; omega⟩
    have la := la.app (v := .int (-1)) hra11 (by rw [List.length_map]; omega)
    have lb := lb.app (v := .int (-1)) hra11 (by rw [List.length_map]; omega)
    have n12 : Nw H6 (upd H11 ra (.lst (l0.map V.int ++ [.int (-1)]))) := n611.set nra hra11
    have hp12 : (upd H11 ra (.lst (l0.map V.int ++ [.int (-1)]))) p = some (HO.tup [V.int c, V.ref a, V.ref b]) := by rw [upd_ne (ne_of hp11 hra11 (by intro e; cases e))]; exact hp11
    have hf12 : (upd H11 ra (.lst (l0.map V.int ++ [.int (-1)]))) fq = some (HO.lst [V.int c, V.ref fa, V.ref fb]) := by rw [upd_ne (fun e => by rw [e, hra] at nf7; cases nf7)]; exact hf11
    generalize (upd H11 ra (.lst (l0.map V.int ++ [.int (-1)]))) = H12 at la lb n12 hp12 hf12
    obtain ⟨xa, hxa, lxa⟩ := id la
    refine w_app hxa (va_op (va_var rfl) va_c (rv_ixT (SqT.of hp12) rfl)) (va_un va_c ru_neg) (by omega) ?_
    have lb := lb.app (v := .int (-1)) hxa lxa
    have n13 : Nw H6 (upd H12 a (.lst (xa ++ [.int (-1)]))) := n12.set na hxa
    have hp13 : (upd H12 a (.lst (xa ++ [.int (-1)]))) p = some (HO.tup [V.int c, V.ref a, V.ref b]) := by rw [upd_ne (ne_of hp12 hxa (by intro e; cases e))]; exact hp12
    have hf13 : (upd H12 a (.lst (xa ++ [.int (-1)]))) fq = some (HO.lst [V.int c, V.ref fa, V.ref fb]) := by rw [upd_ne (fun e => by rw [e, ha] at nf7; cases nf7)]; exact hf12
    generalize (upd H12 a (.lst (xa ++ [.int (-1)]))) = H13 at lb n13 hp13 hf13
    obtain ⟨xb, hxb, lxb⟩ := lb
    refine w_appN (mk_lst vs_nil (by show 0 ≤ 100000; decide)) (va_op (va_var rfl) va_c (rv_ixT (SqT.of hp13) rfl)) hxb (by omega) (fun zq nz => ?_)
    have n14 : Nw H6 (upd (upd H13 zq (.lst [])) b (.lst (xb ++ [.ref zq]))) := (n13.lst nz).set nb (Ex.new nz _ _ hxb)
    have hf14 : (upd (upd H13 zq (.lst [])) b (.lst (xb ++ [.ref zq]))) fq = some (HO.lst [V.int c, V.ref fa, V.ref fb]) := by rw [upd_ne (fun e => by rw [e, hb] at nf7; cases nf7)]; exact Ex.new nz _ _ hf13
    generalize (upd (upd H13 zq (.lst [])) b (.lst (xb ++ [.ref zq]))) = H14 at n14 hf14
    -- another number of lanes
    have o5 := (emod_range (a := z5) (b := 9) (by decide)).1
    refine w_asg (va_op va_c (va_op (va_cb (vs_cons (va_op (va_var rfl) va_c (at6 5 hz5 n14.1)) vs_nil) rc_int1) va_c (rv_I (show (0 : Int) < 9 by decide))) rv_I0) ?_
    have on : 1 ≤ 1 + z5 % 9 := by omega
    generalize 1 + z5 % 9 = n5 at on
    refine r_seq (r_asg (r_call ((vs_cons (va_var rfl) (vs_cons (va_var rfl) vs_nil)).go ?_)))
    refine ⟨n14.nd nd6, r, ps, gs, n5, rfl, R.ex n14.1, g, by omega, on, fun m H15 c5 U5 hB5 e15 c15 pt5 => ?_⟩
    refine r_nm ?_
    have n1415 : Nw H14 H15 := ⟨e15, c15⟩
    have n15 := n14.trans n1415
    have ul5 := set_len g hB5.set
    have hcf : SV (spCheckFew C) [.ref r, .int n5, .ref m] H15 (.bl true) := fun Q E k => ⟨n15.nd nd6, r, ps, gs, n5, m, c5, U5, _, rfl, R.ex n15.1, g, by omega, pt5.tt, by omega, by rw [List.length_map]; omega, fun b hb => by rw [hb.mpr (best_acc g on hB5)]; exact k⟩
    refine w_when (b := false) (an_is (an_or (an_not (an_B (va_call (z := .bl true) (vs_cons (va_var rfl) vs_nil) (fun Q E k => ⟨n15.nd nd6, m, _, _, _, rfl, pt5.tt, k⟩)))) fun _ => an_or (an_not (an_B (va_call (vs_cons (va_var rfl) (vs_cons (va_var rfl) (vs_cons (va_var rfl) vs_nil))) (hold n15 on hB5 pt5)))) fun _ => an_test (va_op (va_call (vs_cons (va_var rfl) (vs_cons (va_var rfl) (vs_cons (va_var rfl) vs_nil))) hcf) va_c rv_notB)) rfl) (fun z => by cases z) (fun _ => ?_)
    -- the same again
    refine r_seq (r_asg (r_call ((vs_cons (va_var rfl) (vs_cons (va_var rfl) vs_nil)).go ?_)))
    refine ⟨n15.nd nd6, r, ps, gs, n, rfl, R.ex n15.1, g, by omega, hn, fun m2 H16 c6 U6 hB6 e16 c16 pt6 => ?_⟩
    refine r_nm ?_
    have n1516 : Nw H15 H16 := ⟨e16, c16⟩
    have n16 := n15.trans n1516
    refine r_seq (r_asg (r_call ((vs_cons (va_var rfl) (vs_cons (va_var rfl) vs_nil)).go ?_)))
    refine ⟨n16.nd nd6, r, ps, gs, n, rfl, R.ex n16.1, g, by omega, hn, fun c8 U8 q8 p8 hB8 nq8 np8 npq => ?_⟩
    refine ⟨p8, _, rfl, SqT.of upd_same, rfl, _, _, rfl, _, _, rfl, rfl, ?_⟩
    have np8' : (upd H16 q8 (.lst (U8.map V.int))) p8 = none := by rw [upd_ne npq]; exact np8
    have n1617 : Nw H16 (upd (upd H16 q8 (.lst (U8.map V.int))) p8 (.tup [.int c8, .ref q8])) := ((Nw.refl H16).lst nq8).add np8' True.intro
    have hq8 : (upd (upd H16 q8 (.lst (U8.map V.int))) p8 (.tup [.int c8, .ref q8])) q8 = some (.lst (U8.map V.int)) := by rw [upd_ne npq.symm, upd_same]
    generalize (upd (upd H16 q8 (.lst (U8.map V.int))) p8 (.tup [.int c8, .ref q8])) = H17 at n1617 hq8
    have n17 := n16.trans n1617
    have ul8 := set_len g hB8.set
    have sd17 := SqT.of (K := K) (n17.1 _ _ hd)
    have ha17 := n17.1 _ _ ha0
    have hb17 := n17.1 _ _ hb0
    have hf17 := n1617.1 _ _ (e16 _ _ (e15 _ _ hf14))
    have pt7 := pt6.ex n1617.1
    obtain ⟨_, x7, hx7, g1, g2, rfl, _⟩ := id pt7
    have ee := best_one hB hB8
    have ee6 := best_one hB hB6
    have t1 : SV spInts [.ref q8] H17 (.bl true) := fun Q E k => ⟨n17.nd nd6, q8, U8, rfl, hq8, k⟩
    have t2 : SV spLSet [.ref b0, .int n, .ref q8] H17 (.bl true) := fun Q E k => ⟨n17.nd nd6, b0, gs, n, q8, U8, rfl, hb17, hq8, by omega, fun b hb => by rw [hb.mpr hB8.set]; exact k⟩
    have t3 : SV spLCost [.ref a0, .ref q8] H17 (.int c8) := fun Q E k => ⟨n17.nd nd6, a0, ps, q8, U8, rfl, ha17, by omega, hq8, by omega, fun x hx => g.inn (hB8.set.mem x hx), iso_len hB8.set, by rw [hB8.cost]; exact k⟩
    refine w_when (b := false) (an_is (an_or (an_not (an_B (va_call (vs_cons (va_var rfl) vs_nil) t1))) fun _ => an_or (an_not (an_B (va_call (vs_cons (va_op (va_var rfl) va_c (rv_ixT sd17 rfl)) (vs_cons (va_var rfl) (vs_cons (va_var rfl) vs_nil))) t2))) fun _ => an_test (va_op (va_call (vs_cons (va_op (va_var rfl) va_c (rv_ixT sd17 rfl)) (vs_cons (va_var rfl) vs_nil)) t3) (va_var rfl) rv_neI)) (by rw [decide_eq_true (rfl : c8 = c8)]; rfl)) (fun z => by cases z) (fun _ => ?_)
    refine w_when (b := false) (an_is (an_or (an_not (an_B (va_call (z := .bl true) (vs_cons (va_var rfl) vs_nil) (fun Q E k => ⟨n17.nd nd6, m2, _, _, _, rfl, pt7.tt, k⟩)))) fun _ => an_or (an_not (an_B (va_call (vs_cons (va_var rfl) (vs_cons (va_var rfl) (vs_cons (va_var rfl) vs_nil))) (hold n17 hn hB6 pt7)))) fun _ => an_test (va_op (va_op (va_var rfl) va_c (rv_ixT (SqT.of hx7) rfl)) (va_op (va_var rfl) va_c (rv_ixL (SqL.of hf17) rfl)) rv_neI)) (by rw [decide_eq_true (show c6 = c by omega)]; rfl)) (fun z => by cases z) (fun _ => ?_)
    have t4 : SV spIsInt [.int c8] H17 (.bl true) := fun Q E k => ⟨n17.nd nd6, c8, rfl, k⟩
    refine w_when (b := false) (an_is (an_or (an_not (an_B (va_call (vs_cons (va_var rfl) vs_nil) t4))) fun _ => an_test (va_op (va_var rfl) (va_op (va_var rfl) va_c (rv_ixL (SqL.of hf17) rfl)) rv_neI)) (by rw [decide_eq_true (show c8 = c by omega)]; rfl)) (fun z => by cases z) (fun _ => ?_)
    obtain ⟨dx, ra', rb', rc', rd', h1, h2, ⟨ob, hob, h3⟩, h4⟩ := R.ex n17.1
    refine r_ret (r_andV (r_op ?_))
    refine (va_fld (va_var rfl) h1 T.cl T.n2 fs_prices).go ?_
    refine (mk_cb (vs_cons (va_op (va_var rfl) va_c (rv_ixT sd17 rfl)) vs_nil) (rn_tupleL (SqL.of ha17))).go fun t1 nt1 => ?_
    have e18 := Ex.new (o := .tup (ps.map V.int)) nt1
    refine (rv_eqTup (SqT.of (e18 _ _ h2)) (SqT.of upd_same)).go ⟨_, rfl, iteT (r_op ?_)⟩
    refine (va_fld (va_var rfl) (e18 _ _ h1) T.cl T.n3 fs_doors).go ?_
    refine (mk_cb (vs_cons (va_op (va_var rfl) va_c (rv_ixT (SqT.of (e18 _ _ (n17.1 _ _ hd))) rfl)) vs_nil) (rn_tupleL (SqL.of (e18 _ _ hb17)))).go fun t2 nt2 => ?_
    have e19 := Ex.new (o := .tup (gs.map V.int)) nt2
    exact (rv_eqTup (sqF (e19 _ _ (e18 _ _ h3))) (SqT.of upd_same)).go (q _)
end
end Fp

/-! ## A1 -/
set_option Elab.async false
set_option linter.all false
set_option maxRecDepth 100000
set_option maxHeartbeats 4000000
namespace Fp
open PySem L2 Fv
open Evl (Ex Ex.refl Ex.trans Ex.new fresh_back ex_rd ex_l ex_t)
open Fw
local macro_rules | `(tactic| walk_at "va") => `(tactic| first
  | with_reducible exact va_c
  | ((with_reducible apply va_var); exact rfl)
  | with_reducible exact vs_nil
  | ((with_reducible apply vs_cons) <;> walk_at "va")
  | ((with_reducible apply va_op) <;> walk_at "va")
  | ((with_reducible apply va_un) <;> walk_at "va")
  | ((with_reducible apply va_cb) <;> walk_at "va")
  | ((with_reducible apply va_call) <;> walk_at "va")
  | ((with_reducible apply an_test) <;> walk_at "va")
  | ((with_reducible apply an_B) <;> walk_at "va")
  | ((with_reducible apply an_not) <;> walk_at "va")
  | ((with_reducible apply va_chain) <;> walk_at "va")
  | ((with_reducible apply mk_lst) <;> first | walk_at "va" | (show _ ≤ 100000; decide))
  | ((with_reducible apply mk_tup) <;> first | walk_at "va" | (show _ ≤ 100000; decide))
  | ((with_reducible apply mk_cb) <;> walk_at "va")
  | ((with_reducible apply mk_call) <;> walk_at "va")
  | with_reducible exact rv_I0
  | with_reducible exact rv_eqI
  | with_reducible exact rv_neI
  | with_reducible exact ru_neg
  | with_reducible exact rc_int1
  | with_reducible exact rc_abs
  | with_reducible exact rc_max2
  | with_reducible exact rc_min2
  | ((with_reducible apply rc_sum); assumption)
  | ((with_reducible apply rc_lenLI); assumption)
  | ((with_reducible apply rc_lenTI); assumption)
  | ((with_reducible apply rc_lenL); assumption)
  | ((with_reducible apply rc_lenT); assumption)
  | ((with_reducible apply rv_ixL) <;> assumption)
  | ((with_reducible apply rv_ixT) <;> assumption)
  | ((with_reducible apply rv_ixSL) <;> assumption)
  | ((with_reducible apply rv_ixST) <;> assumption)
  | ((with_reducible apply rv_inL); assumption)
  | ((with_reducible apply rv_inT); assumption)
  | ((with_reducible apply rv_ninL); assumption)
  | ((with_reducible apply rv_ninT); assumption)
  | ((with_reducible apply rn_listL); assumption)
  | ((with_reducible apply rn_listT); assumption)
  | ((with_reducible apply rn_tupleL); assumption)
  | assumption)
/-! ### what the top has written -/
section
variable {P : Program} {w : World} {K : PySem.W.Frag} {mg : Str → Option Value} {base : Heap} {C f : Addr} {fd : FuncData} {k : Nat} {x : Str} {sp : Sp} {ps : List Str}
theorem cal_of (ok : FnOk P w K mg base CX0 k f fd ps sp) (hm : mg x = some (.ref f)) (kp : PySem.W.keepIn K (.ref f) = true) (b : Binds K fd ps []) : C8.Cal P w K mg base k x sp [] := ⟨⟨f, fd, ps, [], ok, hm, kp, b, .nil⟩⟩
theorem met_of (c : Cls K C) (m : Meth K C x f) (ok : FnOk P w K mg base CX0 k f fd ps sp) (b : Binds K fd ps []) : C8.Met P w K mg base k C x sp [] := ⟨⟨f, fd, ps, [], c, m, ok, b, .nil⟩⟩
end
theorem all_mk {l : PySem.W.OpenLaw} {w : World} {K : PySem.W.Frag} {h : Heap} {mg : Str → Option Value} {fa C : Addr} (X : K.In h) (G : h.Ns mainGlobals mg) (hfa : mg "law" = some (.ref fa))
    {f_R_whole : Addr} {od_R_whole an_R_whole : Option Addr} {sl_R_whole : Array (Option Value)} {oc_R_whole kV_R_whole dc_R_whole pm_R_whole cd_R_whole ct_R_whole : Value}
    {f_R_far : Addr} {od_R_far an_R_far : Option Addr} {sl_R_far : Array (Option Value)} {oc_R_far kV_R_far dc_R_far pm_R_far cd_R_far ct_R_far : Value}
    {f_P_way_round : Addr} {od_P_way_round an_P_way_round : Option Addr} {sl_P_way_round : Array (Option Value)} {oc_P_way_round kV_P_way_round dc_P_way_round pm_P_way_round cd_P_way_round ct_P_way_round : Value}
    {f_R_chosen : Addr} {od_R_chosen an_R_chosen : Option Addr} {sl_R_chosen : Array (Option Value)} {oc_R_chosen kV_R_chosen dc_R_chosen pm_R_chosen cd_R_chosen ct_R_chosen : Value}
    {f_R_gap : Addr} {od_R_gap an_R_gap : Option Addr} {sl_R_gap : Array (Option Value)} {oc_R_gap kV_R_gap dc_R_gap pm_R_gap cd_R_gap ct_R_gap : Value}
    {f_R_greatest_gap : Addr} {od_R_greatest_gap an_R_greatest_gap : Option Addr} {sl_R_greatest_gap : Array (Option Value)} {oc_R_greatest_gap kV_R_greatest_gap dc_R_greatest_gap pm_R_greatest_gap cd_R_greatest_gap ct_R_greatest_gap : Value}
    {f_R_cost : Addr} {od_R_cost an_R_cost : Option Addr} {sl_R_cost : Array (Option Value)} {oc_R_cost kV_R_cost dc_R_cost pm_R_cost cd_R_cost ct_R_cost : Value}
    {f_P_check_ring : Addr} {od_P_check_ring an_P_check_ring : Option Addr} {sl_P_check_ring : Array (Option Value)} {oc_P_check_ring kV_P_check_ring dc_P_check_ring pm_P_check_ring cd_P_check_ring ct_P_check_ring : Value}
    {f_P_sums_of : Addr} {od_P_sums_of an_P_sums_of : Option Addr} {sl_P_sums_of : Array (Option Value)} {oc_P_sums_of kV_P_sums_of dc_P_sums_of pm_P_sums_of cd_P_sums_of ct_P_sums_of : Value}
    {f_R_init : Addr} {od_R_init an_R_init : Option Addr} {sl_R_init : Array (Option Value)} {oc_R_init dc_R_init pm_R_init cd_R_init ct_R_init : Value}
    {f_P_leaps_within : Addr} {od_P_leaps_within an_P_leaps_within : Option Addr} {sl_P_leaps_within : Array (Option Value)} {oc_P_leaps_within kV_P_leaps_within dc_P_leaps_within pm_P_leaps_within cd_P_leaps_within ct_P_leaps_within : Value}
    {f_P_leaps : Addr} {od_P_leaps an_P_leaps : Option Addr} {sl_P_leaps : Array (Option Value)} {oc_P_leaps kV_P_leaps dc_P_leaps pm_P_leaps cd_P_leaps ct_P_leaps : Value}
    {f_P_distinct : Addr} {od_P_distinct an_P_distinct : Option Addr} {sl_P_distinct : Array (Option Value)} {oc_P_distinct kV_P_distinct dc_P_distinct pm_P_distinct cd_P_distinct ct_P_distinct : Value}
    {f_P_choice : Addr} {od_P_choice an_P_choice : Option Addr} {sl_P_choice : Array (Option Value)} {oc_P_choice kV_P_choice dc_P_choice pm_P_choice cd_P_choice ct_P_choice : Value}
    {f_P_few_cost : Addr} {od_P_few_cost an_P_few_cost : Option Addr} {sl_P_few_cost : Array (Option Value)} {oc_P_few_cost kV_P_few_cost dc_P_few_cost pm_P_few_cost cd_P_few_cost ct_P_few_cost : Value}
    {f_P_few_paper : Addr} {od_P_few_paper an_P_few_paper : Option Addr} {sl_P_few_paper : Array (Option Value)} {oc_P_few_paper kV_P_few_paper dc_P_few_paper pm_P_few_paper cd_P_few_paper ct_P_few_paper : Value}
    {f_P_is_choice : Addr} {od_P_is_choice an_P_is_choice : Option Addr} {sl_P_is_choice : Array (Option Value)} {oc_P_is_choice kV_P_is_choice dc_P_is_choice pm_P_is_choice cd_P_is_choice ct_P_is_choice : Value}
    {f_P_check_few : Addr} {od_P_check_few an_P_check_few : Option Addr} {sl_P_check_few : Array (Option Value)} {oc_P_check_few kV_P_check_few dc_P_check_few pm_P_check_few cd_P_check_few ct_P_check_few : Value}
    {f_L_cell : Addr} {od_L_cell an_L_cell : Option Addr} {sl_L_cell : Array (Option Value)} {oc_L_cell kV_L_cell dc_L_cell pm_L_cell cd_L_cell ct_L_cell : Value}
    {f_L_digits : Addr} {od_L_digits an_L_digits : Option Addr} {sl_L_digits : Array (Option Value)} {oc_L_digits kV_L_digits dc_L_digits pm_L_digits cd_L_digits ct_L_digits : Value}
    {f_L_seed : Addr} {od_L_seed an_L_seed : Option Addr} {sl_L_seed : Array (Option Value)} {oc_L_seed kV_L_seed dc_L_seed pm_L_seed cd_L_seed ct_L_seed : Value}
    {f_L_price : Addr} {od_L_price an_L_price : Option Addr} {sl_L_price : Array (Option Value)} {oc_L_price kV_L_price dc_L_price pm_L_price cd_L_price ct_L_price : Value}
    {f_L_is_int : Addr} {od_L_is_int an_L_is_int : Option Addr} {sl_L_is_int : Array (Option Value)} {oc_L_is_int kV_L_is_int dc_L_is_int pm_L_is_int cd_L_is_int ct_L_is_int : Value}
    {f_L_ints : Addr} {od_L_ints an_L_ints : Option Addr} {sl_L_ints : Array (Option Value)} {oc_L_ints kV_L_ints dc_L_ints pm_L_ints cd_L_ints ct_L_ints : Value}
    {f_L_sums : Addr} {od_L_sums an_L_sums : Option Addr} {sl_L_sums : Array (Option Value)} {oc_L_sums kV_L_sums dc_L_sums pm_L_sums cd_L_sums ct_L_sums : Value}
    {f_L_back : Addr} {od_L_back an_L_back : Option Addr} {sl_L_back : Array (Option Value)} {oc_L_back kV_L_back dc_L_back pm_L_back cd_L_back ct_L_back : Value}
    {f_L_far : Addr} {od_L_far an_L_far : Option Addr} {sl_L_far : Array (Option Value)} {oc_L_far kV_L_far dc_L_far pm_L_far cd_L_far ct_L_far : Value}
    {f_L_gap : Addr} {od_L_gap an_L_gap : Option Addr} {sl_L_gap : Array (Option Value)} {oc_L_gap kV_L_gap dc_L_gap pm_L_gap cd_L_gap ct_L_gap : Value}
    {f_L_cost : Addr} {od_L_cost an_L_cost : Option Addr} {sl_L_cost : Array (Option Value)} {oc_L_cost kV_L_cost dc_L_cost pm_L_cost cd_L_cost ct_L_cost : Value}
    {f_L_is_set : Addr} {od_L_is_set an_L_is_set : Option Addr} {sl_L_is_set : Array (Option Value)} {oc_L_is_set kV_L_is_set dc_L_is_set pm_L_is_set cd_L_is_set ct_L_is_set : Value}
    {f_L_leaps : Addr} {od_L_leaps an_L_leaps : Option Addr} {sl_L_leaps : Array (Option Value)} {oc_L_leaps kV_L_leaps dc_L_leaps pm_L_leaps cd_L_leaps ct_L_leaps : Value}
    {f_L_drawn : Addr} {od_L_drawn an_L_drawn : Option Addr} {sl_L_drawn : Array (Option Value)} {oc_L_drawn kV_L_drawn dc_L_drawn pm_L_drawn cd_L_drawn ct_L_drawn : Value}
    {f_L_made : Addr} {od_L_made an_L_made : Option Addr} {sl_L_made : Array (Option Value)} {oc_L_made kV_L_made dc_L_made pm_L_made cd_L_made ct_L_made : Value}
    {f_L_copied : Addr} {od_L_copied an_L_copied : Option Addr} {sl_L_copied : Array (Option Value)} {oc_L_copied kV_L_copied dc_L_copied pm_L_copied cd_L_copied ct_L_copied : Value}
    {f_L_is_paper : Addr} {od_L_is_paper an_L_is_paper : Option Addr} {sl_L_is_paper : Array (Option Value)} {oc_L_is_paper kV_L_is_paper dc_L_is_paper pm_L_is_paper cd_L_is_paper ct_L_is_paper : Value}
    {f_L_holds : Addr} {od_L_holds an_L_holds : Option Addr} {sl_L_holds : Array (Option Value)} {oc_L_holds kV_L_holds dc_L_holds pm_L_holds cd_L_holds ct_L_holds : Value}
    {f_L_paper_of : Addr} {od_L_paper_of an_L_paper_of : Option Addr} {sl_L_paper_of : Array (Option Value)} {oc_L_paper_of kV_L_paper_of dc_L_paper_of pm_L_paper_of cd_L_paper_of ct_L_paper_of : Value}
    {f_L_some_doors : Addr} {od_L_some_doors an_L_some_doors : Option Addr} {sl_L_some_doors : Array (Option Value)} {oc_L_some_doors kV_L_some_doors dc_L_some_doors pm_L_some_doors cd_L_some_doors ct_L_some_doors : Value}
    {f_L_best_doors : Addr} {od_L_best_doors an_L_best_doors : Option Addr} {sl_L_best_doors : Array (Option Value)} {oc_L_best_doors kV_L_best_doors dc_L_best_doors pm_L_best_doors cd_L_best_doors ct_L_best_doors : Value}
    {f_L_best : Addr} {od_L_best an_L_best : Option Addr} {sl_L_best : Array (Option Value)} {oc_L_best kV_L_best dc_L_best pm_L_best cd_L_best ct_L_best : Value}
    {f_L_strange : Addr} {od_L_strange an_L_strange : Option Addr} {sl_L_strange : Array (Option Value)} {oc_L_strange kV_L_strange dc_L_strange pm_L_strange cd_L_strange ct_L_strange : Value}
    {f_L_spoil_doors : Addr} {od_L_spoil_doors an_L_spoil_doors : Option Addr} {sl_L_spoil_doors : Array (Option Value)} {oc_L_spoil_doors kV_L_spoil_doors dc_L_spoil_doors pm_L_spoil_doors cd_L_spoil_doors ct_L_spoil_doors : Value}
    {f_L_spoil_row : Addr} {od_L_spoil_row an_L_spoil_row : Option Addr} {sl_L_spoil_row : Array (Option Value)} {oc_L_spoil_row kV_L_spoil_row dc_L_spoil_row pm_L_spoil_row cd_L_spoil_row ct_L_spoil_row : Value}
    {f_L_spoil : Addr} {od_L_spoil an_L_spoil : Option Addr} {sl_L_spoil : Array (Option Value)} {oc_L_spoil kV_L_spoil dc_L_spoil pm_L_spoil cd_L_spoil ct_L_spoil : Value}
    {f_L_checks : Addr} {od_L_checks an_L_checks : Option Addr} {sl_L_checks : Array (Option Value)} {oc_L_checks kV_L_checks dc_L_checks pm_L_checks cd_L_checks ct_L_checks : Value}
    {f_L_made_paper : Addr} {od_L_made_paper an_L_made_paper : Option Addr} {sl_L_made_paper : Array (Option Value)} {oc_L_made_paper kV_L_made_paper dc_L_made_paper pm_L_made_paper cd_L_made_paper ct_L_made_paper : Value}
    {f_law : Addr} {od_law an_law : Option Addr} {sl_law : Array (Option Value)} {oc_law kV_law dc_law pm_law cd_law ct_law : Value}
    {DI : Addr}
    (aC : PySem.W.nsIn K mainGlobals "Ring" = some (some (.ref C)))
    (a_R_whole : PySem.W.findIn K (.ref C) "whole" = some (some (.ref f_R_whole)))
    (i_R_whole : PySem.W.isFn K (.ref f_R_whole) = true)
    (l_R_whole : K.lookup f_R_whole = some ⟨oc_R_whole, od_R_whole, .func (PySem.W.fnOf "whole" "Ring.whole" (defArgs s_R_whole) (defBody s_R_whole) (defScope s_R_whole) .none kV_R_whole dc_R_whole pm_R_whole an_R_whole cd_R_whole ct_R_whole), sl_R_whole⟩)
    (c_R_whole0 : PySem.W.codeIn K cd_R_whole "Ring.whole" = true)
    (k_R_whole : PySem.W.keepIn K (.ref f_R_whole) = true)
    (a_R_far : PySem.W.findIn K (.ref C) "far" = some (some (.ref f_R_far)))
    (i_R_far : PySem.W.isFn K (.ref f_R_far) = true)
    (l_R_far : K.lookup f_R_far = some ⟨oc_R_far, od_R_far, .func (PySem.W.fnOf "far" "Ring.far" (defArgs s_R_far) (defBody s_R_far) (defScope s_R_far) .none kV_R_far dc_R_far pm_R_far an_R_far cd_R_far ct_R_far), sl_R_far⟩)
    (c_R_far0 : PySem.W.codeIn K cd_R_far "Ring.far" = true)
    (k_R_far : PySem.W.keepIn K (.ref f_R_far) = true)
    (a_P_way_round : PySem.W.nsIn K mainGlobals "way_round" = some (some (.ref f_P_way_round)))
    (l_P_way_round : K.lookup f_P_way_round = some ⟨oc_P_way_round, od_P_way_round, .func (PySem.W.fnOf "way_round" "way_round" (defArgs s_P_way_round) (defBody s_P_way_round) (defScope s_P_way_round) .none kV_P_way_round dc_P_way_round pm_P_way_round an_P_way_round cd_P_way_round ct_P_way_round), sl_P_way_round⟩)
    (c_P_way_round0 : PySem.W.codeIn K cd_P_way_round "way_round" = true)
    (k_P_way_round : PySem.W.keepIn K (.ref f_P_way_round) = true)
    (a_R_chosen : PySem.W.findIn K (.ref C) "_chosen" = some (some (.ref f_R_chosen)))
    (i_R_chosen : PySem.W.isFn K (.ref f_R_chosen) = true)
    (l_R_chosen : K.lookup f_R_chosen = some ⟨oc_R_chosen, od_R_chosen, .func (PySem.W.fnOf "_chosen" "Ring._chosen" (defArgs s_R_chosen) (defBody s_R_chosen) (defScope s_R_chosen) .none kV_R_chosen dc_R_chosen pm_R_chosen an_R_chosen cd_R_chosen ct_R_chosen), sl_R_chosen⟩)
    (c_R_chosen0 : PySem.W.codeIn K cd_R_chosen "Ring._chosen" = true)
    (k_R_chosen : PySem.W.keepIn K (.ref f_R_chosen) = true)
    (a_R_gap : PySem.W.findIn K (.ref C) "_gap" = some (some (.ref f_R_gap)))
    (i_R_gap : PySem.W.isFn K (.ref f_R_gap) = true)
    (l_R_gap : K.lookup f_R_gap = some ⟨oc_R_gap, od_R_gap, .func (PySem.W.fnOf "_gap" "Ring._gap" (defArgs s_R_gap) (defBody s_R_gap) (defScope s_R_gap) .none kV_R_gap dc_R_gap pm_R_gap an_R_gap cd_R_gap ct_R_gap), sl_R_gap⟩)
    (c_R_gap0 : PySem.W.codeIn K cd_R_gap "Ring._gap" = true)
    (k_R_gap : PySem.W.keepIn K (.ref f_R_gap) = true)
    (a_R_greatest_gap : PySem.W.findIn K (.ref C) "greatest_gap" = some (some (.ref f_R_greatest_gap)))
    (i_R_greatest_gap : PySem.W.isFn K (.ref f_R_greatest_gap) = true)
    (l_R_greatest_gap : K.lookup f_R_greatest_gap = some ⟨oc_R_greatest_gap, od_R_greatest_gap, .func (PySem.W.fnOf "greatest_gap" "Ring.greatest_gap" (defArgs s_R_greatest_gap) (defBody s_R_greatest_gap) (defScope s_R_greatest_gap) .none kV_R_greatest_gap dc_R_greatest_gap pm_R_greatest_gap an_R_greatest_gap cd_R_greatest_gap ct_R_greatest_gap), sl_R_greatest_gap⟩)
    (c_R_greatest_gap0 : PySem.W.codeIn K cd_R_greatest_gap "Ring.greatest_gap" = true)
    (k_R_greatest_gap : PySem.W.keepIn K (.ref f_R_greatest_gap) = true)
    (a_R_cost : PySem.W.findIn K (.ref C) "cost" = some (some (.ref f_R_cost)))
    (i_R_cost : PySem.W.isFn K (.ref f_R_cost) = true)
    (l_R_cost : K.lookup f_R_cost = some ⟨oc_R_cost, od_R_cost, .func (PySem.W.fnOf "cost" "Ring.cost" (defArgs s_R_cost) (defBody s_R_cost) (defScope s_R_cost) .none kV_R_cost dc_R_cost pm_R_cost an_R_cost cd_R_cost ct_R_cost), sl_R_cost⟩)
    (c_R_cost0 : PySem.W.codeIn K cd_R_cost "Ring.cost" = true)
    (k_R_cost : PySem.W.keepIn K (.ref f_R_cost) = true)
    (a_P_check_ring : PySem.W.nsIn K mainGlobals "check_ring" = some (some (.ref f_P_check_ring)))
    (l_P_check_ring : K.lookup f_P_check_ring = some ⟨oc_P_check_ring, od_P_check_ring, .func (PySem.W.fnOf "check_ring" "check_ring" (defArgs s_P_check_ring) (defBody s_P_check_ring) (defScope s_P_check_ring) .none kV_P_check_ring dc_P_check_ring pm_P_check_ring an_P_check_ring cd_P_check_ring ct_P_check_ring), sl_P_check_ring⟩)
    (c_P_check_ring0 : PySem.W.codeIn K cd_P_check_ring "check_ring" = true)
    (k_P_check_ring : PySem.W.keepIn K (.ref f_P_check_ring) = true)
    (a_P_sums_of : PySem.W.nsIn K mainGlobals "sums_of" = some (some (.ref f_P_sums_of)))
    (l_P_sums_of : K.lookup f_P_sums_of = some ⟨oc_P_sums_of, od_P_sums_of, .func (PySem.W.fnOf "sums_of" "sums_of" (defArgs s_P_sums_of) (defBody s_P_sums_of) (defScope s_P_sums_of) .none kV_P_sums_of dc_P_sums_of pm_P_sums_of an_P_sums_of cd_P_sums_of ct_P_sums_of), sl_P_sums_of⟩)
    (c_P_sums_of0 : PySem.W.codeIn K cd_P_sums_of "sums_of" = true)
    (k_P_sums_of : PySem.W.keepIn K (.ref f_P_sums_of) = true)
    (a_R_init : PySem.W.findIn K (.ref C) "__init__" = some (some (.ref f_R_init)))
    (i_R_init : PySem.W.isFn K (.ref f_R_init) = true)
    (l_R_init : K.lookup f_R_init = some ⟨oc_R_init, od_R_init, .func (PySem.W.fnOf "__init__" "Ring.__init__" (defArgs s_R_init) (defBody s_R_init) (defScope s_R_init) .none (.ref DI) dc_R_init pm_R_init an_R_init cd_R_init ct_R_init), sl_R_init⟩)
    (c_R_init0 : PySem.W.codeIn K cd_R_init "Ring.__init__" = true)
    (k_R_init : PySem.W.keepIn K (.ref f_R_init) = true)
    (a_P_leaps_within : PySem.W.nsIn K mainGlobals "leaps_within" = some (some (.ref f_P_leaps_within)))
    (l_P_leaps_within : K.lookup f_P_leaps_within = some ⟨oc_P_leaps_within, od_P_leaps_within, .func (PySem.W.fnOf "leaps_within" "leaps_within" (defArgs s_P_leaps_within) (defBody s_P_leaps_within) (defScope s_P_leaps_within) .none kV_P_leaps_within dc_P_leaps_within pm_P_leaps_within an_P_leaps_within cd_P_leaps_within ct_P_leaps_within), sl_P_leaps_within⟩)
    (c_P_leaps_within0 : PySem.W.codeIn K cd_P_leaps_within "leaps_within" = true)
    (k_P_leaps_within : PySem.W.keepIn K (.ref f_P_leaps_within) = true)
    (a_P_leaps : PySem.W.nsIn K mainGlobals "leaps" = some (some (.ref f_P_leaps)))
    (l_P_leaps : K.lookup f_P_leaps = some ⟨oc_P_leaps, od_P_leaps, .func (PySem.W.fnOf "leaps" "leaps" (defArgs s_P_leaps) (defBody s_P_leaps) (defScope s_P_leaps) .none kV_P_leaps dc_P_leaps pm_P_leaps an_P_leaps cd_P_leaps ct_P_leaps), sl_P_leaps⟩)
    (c_P_leaps0 : PySem.W.codeIn K cd_P_leaps "leaps" = true)
    (k_P_leaps : PySem.W.keepIn K (.ref f_P_leaps) = true)
    (a_P_distinct : PySem.W.nsIn K mainGlobals "distinct" = some (some (.ref f_P_distinct)))
    (l_P_distinct : K.lookup f_P_distinct = some ⟨oc_P_distinct, od_P_distinct, .func (PySem.W.fnOf "distinct" "distinct" (defArgs s_P_distinct) (defBody s_P_distinct) (defScope s_P_distinct) .none kV_P_distinct dc_P_distinct pm_P_distinct an_P_distinct cd_P_distinct ct_P_distinct), sl_P_distinct⟩)
    (c_P_distinct0 : PySem.W.codeIn K cd_P_distinct "distinct" = true)
    (k_P_distinct : PySem.W.keepIn K (.ref f_P_distinct) = true)
    (a_P_choice : PySem.W.nsIn K mainGlobals "choice_of_doors" = some (some (.ref f_P_choice)))
    (l_P_choice : K.lookup f_P_choice = some ⟨oc_P_choice, od_P_choice, .func (PySem.W.fnOf "choice_of_doors" "choice_of_doors" (defArgs s_P_choice_of_doors) (defBody s_P_choice_of_doors) (defScope s_P_choice_of_doors) .none kV_P_choice dc_P_choice pm_P_choice an_P_choice cd_P_choice ct_P_choice), sl_P_choice⟩)
    (c_P_choice0 : PySem.W.codeIn K cd_P_choice "choice_of_doors" = true)
    (k_P_choice : PySem.W.keepIn K (.ref f_P_choice) = true)
    (a_P_few_cost : PySem.W.nsIn K mainGlobals "few_cost" = some (some (.ref f_P_few_cost)))
    (l_P_few_cost : K.lookup f_P_few_cost = some ⟨oc_P_few_cost, od_P_few_cost, .func (PySem.W.fnOf "few_cost" "few_cost" (defArgs s_P_few_cost) (defBody s_P_few_cost) (defScope s_P_few_cost) .none kV_P_few_cost dc_P_few_cost pm_P_few_cost an_P_few_cost cd_P_few_cost ct_P_few_cost), sl_P_few_cost⟩)
    (c_P_few_cost0 : PySem.W.codeIn K cd_P_few_cost "few_cost" = true)
    (k_P_few_cost : PySem.W.keepIn K (.ref f_P_few_cost) = true)
    (a_P_few_paper : PySem.W.nsIn K mainGlobals "few_paper" = some (some (.ref f_P_few_paper)))
    (l_P_few_paper : K.lookup f_P_few_paper = some ⟨oc_P_few_paper, od_P_few_paper, .func (PySem.W.fnOf "few_paper" "few_paper" (defArgs s_P_few_paper) (defBody s_P_few_paper) (defScope s_P_few_paper) .none kV_P_few_paper dc_P_few_paper pm_P_few_paper an_P_few_paper cd_P_few_paper ct_P_few_paper), sl_P_few_paper⟩)
    (c_P_few_paper0 : PySem.W.codeIn K cd_P_few_paper "few_paper" = true)
    (k_P_few_paper : PySem.W.keepIn K (.ref f_P_few_paper) = true)
    (a_P_is_choice : PySem.W.nsIn K mainGlobals "is_choice" = some (some (.ref f_P_is_choice)))
    (l_P_is_choice : K.lookup f_P_is_choice = some ⟨oc_P_is_choice, od_P_is_choice, .func (PySem.W.fnOf "is_choice" "is_choice" (defArgs s_P_is_choice) (defBody s_P_is_choice) (defScope s_P_is_choice) .none kV_P_is_choice dc_P_is_choice pm_P_is_choice an_P_is_choice cd_P_is_choice ct_P_is_choice), sl_P_is_choice⟩)
    (c_P_is_choice0 : PySem.W.codeIn K cd_P_is_choice "is_choice" = true)
    (k_P_is_choice : PySem.W.keepIn K (.ref f_P_is_choice) = true)
    (a_P_check_few : PySem.W.nsIn K mainGlobals "check_few" = some (some (.ref f_P_check_few)))
    (l_P_check_few : K.lookup f_P_check_few = some ⟨oc_P_check_few, od_P_check_few, .func (PySem.W.fnOf "check_few" "check_few" (defArgs s_P_check_few) (defBody s_P_check_few) (defScope s_P_check_few) .none kV_P_check_few dc_P_check_few pm_P_check_few an_P_check_few cd_P_check_few ct_P_check_few), sl_P_check_few⟩)
    (c_P_check_few0 : PySem.W.codeIn K cd_P_check_few "check_few" = true)
    (k_P_check_few : PySem.W.keepIn K (.ref f_P_check_few) = true)
    (a_L_cell : PySem.W.nsIn K mainGlobals "_law_cell" = some (some (.ref f_L_cell)))
    (l_L_cell : K.lookup f_L_cell = some ⟨oc_L_cell, od_L_cell, .func (PySem.W.fnOf "_law_cell" "_law_cell" (defArgs s_L_cell) (defBody s_L_cell) (defScope s_L_cell) .none kV_L_cell dc_L_cell pm_L_cell an_L_cell cd_L_cell ct_L_cell), sl_L_cell⟩)
    (c_L_cell0 : PySem.W.codeIn K cd_L_cell "_law_cell" = true)
    (k_L_cell : PySem.W.keepIn K (.ref f_L_cell) = true)
    (a_L_digits : PySem.W.nsIn K mainGlobals "_law_digits" = some (some (.ref f_L_digits)))
    (l_L_digits : K.lookup f_L_digits = some ⟨oc_L_digits, od_L_digits, .func (PySem.W.fnOf "_law_digits" "_law_digits" (defArgs s_L_digits) (defBody s_L_digits) (defScope s_L_digits) .none kV_L_digits dc_L_digits pm_L_digits an_L_digits cd_L_digits ct_L_digits), sl_L_digits⟩)
    (c_L_digits0 : PySem.W.codeIn K cd_L_digits "_law_digits" = true)
    (k_L_digits : PySem.W.keepIn K (.ref f_L_digits) = true)
    (a_L_seed : PySem.W.nsIn K mainGlobals "_law_seed" = some (some (.ref f_L_seed)))
    (l_L_seed : K.lookup f_L_seed = some ⟨oc_L_seed, od_L_seed, .func (PySem.W.fnOf "_law_seed" "_law_seed" (defArgs s_L_seed) (defBody s_L_seed) (defScope s_L_seed) .none kV_L_seed dc_L_seed pm_L_seed an_L_seed cd_L_seed ct_L_seed), sl_L_seed⟩)
    (c_L_seed0 : PySem.W.codeIn K cd_L_seed "_law_seed" = true)
    (k_L_seed : PySem.W.keepIn K (.ref f_L_seed) = true)
    (a_L_price : PySem.W.nsIn K mainGlobals "_law_price" = some (some (.ref f_L_price)))
    (l_L_price : K.lookup f_L_price = some ⟨oc_L_price, od_L_price, .func (PySem.W.fnOf "_law_price" "_law_price" (defArgs s_L_price) (defBody s_L_price) (defScope s_L_price) .none kV_L_price dc_L_price pm_L_price an_L_price cd_L_price ct_L_price), sl_L_price⟩)
    (c_L_price0 : PySem.W.codeIn K cd_L_price "_law_price" = true)
    (k_L_price : PySem.W.keepIn K (.ref f_L_price) = true)
    (a_L_is_int : PySem.W.nsIn K mainGlobals "_law_is_int" = some (some (.ref f_L_is_int)))
    (l_L_is_int : K.lookup f_L_is_int = some ⟨oc_L_is_int, od_L_is_int, .func (PySem.W.fnOf "_law_is_int" "_law_is_int" (defArgs s_L_is_int) (defBody s_L_is_int) (defScope s_L_is_int) .none kV_L_is_int dc_L_is_int pm_L_is_int an_L_is_int cd_L_is_int ct_L_is_int), sl_L_is_int⟩)
    (c_L_is_int0 : PySem.W.codeIn K cd_L_is_int "_law_is_int" = true)
    (k_L_is_int : PySem.W.keepIn K (.ref f_L_is_int) = true)
    (a_L_ints : PySem.W.nsIn K mainGlobals "_law_ints" = some (some (.ref f_L_ints)))
    (l_L_ints : K.lookup f_L_ints = some ⟨oc_L_ints, od_L_ints, .func (PySem.W.fnOf "_law_ints" "_law_ints" (defArgs s_L_ints) (defBody s_L_ints) (defScope s_L_ints) .none kV_L_ints dc_L_ints pm_L_ints an_L_ints cd_L_ints ct_L_ints), sl_L_ints⟩)
    (c_L_ints0 : PySem.W.codeIn K cd_L_ints "_law_ints" = true)
    (k_L_ints : PySem.W.keepIn K (.ref f_L_ints) = true)
    (a_L_sums : PySem.W.nsIn K mainGlobals "_law_sums" = some (some (.ref f_L_sums)))
    (l_L_sums : K.lookup f_L_sums = some ⟨oc_L_sums, od_L_sums, .func (PySem.W.fnOf "_law_sums" "_law_sums" (defArgs s_L_sums) (defBody s_L_sums) (defScope s_L_sums) .none kV_L_sums dc_L_sums pm_L_sums an_L_sums cd_L_sums ct_L_sums), sl_L_sums⟩)
    (c_L_sums0 : PySem.W.codeIn K cd_L_sums "_law_sums" = true)
    (k_L_sums : PySem.W.keepIn K (.ref f_L_sums) = true)
    (a_L_back : PySem.W.nsIn K mainGlobals "_law_back" = some (some (.ref f_L_back)))
    (l_L_back : K.lookup f_L_back = some ⟨oc_L_back, od_L_back, .func (PySem.W.fnOf "_law_back" "_law_back" (defArgs s_L_back) (defBody s_L_back) (defScope s_L_back) .none kV_L_back dc_L_back pm_L_back an_L_back cd_L_back ct_L_back), sl_L_back⟩)
    (c_L_back0 : PySem.W.codeIn K cd_L_back "_law_back" = true)
    (k_L_back : PySem.W.keepIn K (.ref f_L_back) = true)
    (a_L_far : PySem.W.nsIn K mainGlobals "_law_far" = some (some (.ref f_L_far)))
    (l_L_far : K.lookup f_L_far = some ⟨oc_L_far, od_L_far, .func (PySem.W.fnOf "_law_far" "_law_far" (defArgs s_L_far) (defBody s_L_far) (defScope s_L_far) .none kV_L_far dc_L_far pm_L_far an_L_far cd_L_far ct_L_far), sl_L_far⟩)
    (c_L_far0 : PySem.W.codeIn K cd_L_far "_law_far" = true)
    (k_L_far : PySem.W.keepIn K (.ref f_L_far) = true)
    (a_L_gap : PySem.W.nsIn K mainGlobals "_law_gap" = some (some (.ref f_L_gap)))
    (l_L_gap : K.lookup f_L_gap = some ⟨oc_L_gap, od_L_gap, .func (PySem.W.fnOf "_law_gap" "_law_gap" (defArgs s_L_gap) (defBody s_L_gap) (defScope s_L_gap) .none kV_L_gap dc_L_gap pm_L_gap an_L_gap cd_L_gap ct_L_gap), sl_L_gap⟩)
    (c_L_gap0 : PySem.W.codeIn K cd_L_gap "_law_gap" = true)
    (k_L_gap : PySem.W.keepIn K (.ref f_L_gap) = true)
    (a_L_cost : PySem.W.nsIn K mainGlobals "_law_cost" = some (some (.ref f_L_cost)))
    (l_L_cost : K.lookup f_L_cost = some ⟨oc_L_cost, od_L_cost, .func (PySem.W.fnOf "_law_cost" "_law_cost" (defArgs s_L_cost) (defBody s_L_cost) (defScope s_L_cost) .none kV_L_cost dc_L_cost pm_L_cost an_L_cost cd_L_cost ct_L_cost), sl_L_cost⟩)
    (c_L_cost0 : PySem.W.codeIn K cd_L_cost "_law_cost" = true)
    (k_L_cost : PySem.W.keepIn K (.ref f_L_cost) = true)
    (a_L_is_set : PySem.W.nsIn K mainGlobals "_law_is_set" = some (some (.ref f_L_is_set)))
    (l_L_is_set : K.lookup f_L_is_set = some ⟨oc_L_is_set, od_L_is_set, .func (PySem.W.fnOf "_law_is_set" "_law_is_set" (defArgs s_L_is_set) (defBody s_L_is_set) (defScope s_L_is_set) .none kV_L_is_set dc_L_is_set pm_L_is_set an_L_is_set cd_L_is_set ct_L_is_set), sl_L_is_set⟩)
    (c_L_is_set0 : PySem.W.codeIn K cd_L_is_set "_law_is_set" = true)
    (k_L_is_set : PySem.W.keepIn K (.ref f_L_is_set) = true)
    (a_L_leaps : PySem.W.nsIn K mainGlobals "_law_leaps" = some (some (.ref f_L_leaps)))
    (l_L_leaps : K.lookup f_L_leaps = some ⟨oc_L_leaps, od_L_leaps, .func (PySem.W.fnOf "_law_leaps" "_law_leaps" (defArgs s_L_leaps) (defBody s_L_leaps) (defScope s_L_leaps) .none kV_L_leaps dc_L_leaps pm_L_leaps an_L_leaps cd_L_leaps ct_L_leaps), sl_L_leaps⟩)
    (c_L_leaps0 : PySem.W.codeIn K cd_L_leaps "_law_leaps" = true)
    (k_L_leaps : PySem.W.keepIn K (.ref f_L_leaps) = true)
    (a_L_drawn : PySem.W.nsIn K mainGlobals "_law_drawn" = some (some (.ref f_L_drawn)))
    (l_L_drawn : K.lookup f_L_drawn = some ⟨oc_L_drawn, od_L_drawn, .func (PySem.W.fnOf "_law_drawn" "_law_drawn" (defArgs s_L_drawn) (defBody s_L_drawn) (defScope s_L_drawn) .none kV_L_drawn dc_L_drawn pm_L_drawn an_L_drawn cd_L_drawn ct_L_drawn), sl_L_drawn⟩)
    (c_L_drawn0 : PySem.W.codeIn K cd_L_drawn "_law_drawn" = true)
    (k_L_drawn : PySem.W.keepIn K (.ref f_L_drawn) = true)
    (a_L_made : PySem.W.nsIn K mainGlobals "_law_made" = some (some (.ref f_L_made)))
    (l_L_made : K.lookup f_L_made = some ⟨oc_L_made, od_L_made, .func (PySem.W.fnOf "_law_made" "_law_made" (defArgs s_L_made) (defBody s_L_made) (defScope s_L_made) .none kV_L_made dc_L_made pm_L_made an_L_made cd_L_made ct_L_made), sl_L_made⟩)
    (c_L_made0 : PySem.W.codeIn K cd_L_made "_law_made" = true)
    (k_L_made : PySem.W.keepIn K (.ref f_L_made) = true)
    (a_L_copied : PySem.W.nsIn K mainGlobals "_law_copied" = some (some (.ref f_L_copied)))
    (l_L_copied : K.lookup f_L_copied = some ⟨oc_L_copied, od_L_copied, .func (PySem.W.fnOf "_law_copied" "_law_copied" (defArgs s_L_copied) (defBody s_L_copied) (defScope s_L_copied) .none kV_L_copied dc_L_copied pm_L_copied an_L_copied cd_L_copied ct_L_copied), sl_L_copied⟩)
    (c_L_copied0 : PySem.W.codeIn K cd_L_copied "_law_copied" = true)
    (k_L_copied : PySem.W.keepIn K (.ref f_L_copied) = true)
    (a_L_is_paper : PySem.W.nsIn K mainGlobals "_law_is_paper" = some (some (.ref f_L_is_paper)))
    (l_L_is_paper : K.lookup f_L_is_paper = some ⟨oc_L_is_paper, od_L_is_paper, .func (PySem.W.fnOf "_law_is_paper" "_law_is_paper" (defArgs s_L_is_paper) (defBody s_L_is_paper) (defScope s_L_is_paper) .none kV_L_is_paper dc_L_is_paper pm_L_is_paper an_L_is_paper cd_L_is_paper ct_L_is_paper), sl_L_is_paper⟩)
    (c_L_is_paper0 : PySem.W.codeIn K cd_L_is_paper "_law_is_paper" = true)
    (k_L_is_paper : PySem.W.keepIn K (.ref f_L_is_paper) = true)
    (a_L_holds : PySem.W.nsIn K mainGlobals "_law_holds" = some (some (.ref f_L_holds)))
    (l_L_holds : K.lookup f_L_holds = some ⟨oc_L_holds, od_L_holds, .func (PySem.W.fnOf "_law_holds" "_law_holds" (defArgs s_L_holds) (defBody s_L_holds) (defScope s_L_holds) .none kV_L_holds dc_L_holds pm_L_holds an_L_holds cd_L_holds ct_L_holds), sl_L_holds⟩)
    (c_L_holds0 : PySem.W.codeIn K cd_L_holds "_law_holds" = true)
    (k_L_holds : PySem.W.keepIn K (.ref f_L_holds) = true)
    (a_L_paper_of : PySem.W.nsIn K mainGlobals "_law_paper_of" = some (some (.ref f_L_paper_of)))
    (l_L_paper_of : K.lookup f_L_paper_of = some ⟨oc_L_paper_of, od_L_paper_of, .func (PySem.W.fnOf "_law_paper_of" "_law_paper_of" (defArgs s_L_paper_of) (defBody s_L_paper_of) (defScope s_L_paper_of) .none kV_L_paper_of dc_L_paper_of pm_L_paper_of an_L_paper_of cd_L_paper_of ct_L_paper_of), sl_L_paper_of⟩)
    (c_L_paper_of0 : PySem.W.codeIn K cd_L_paper_of "_law_paper_of" = true)
    (k_L_paper_of : PySem.W.keepIn K (.ref f_L_paper_of) = true)
    (a_L_some_doors : PySem.W.nsIn K mainGlobals "_law_some_doors" = some (some (.ref f_L_some_doors)))
    (l_L_some_doors : K.lookup f_L_some_doors = some ⟨oc_L_some_doors, od_L_some_doors, .func (PySem.W.fnOf "_law_some_doors" "_law_some_doors" (defArgs s_L_some_doors) (defBody s_L_some_doors) (defScope s_L_some_doors) .none kV_L_some_doors dc_L_some_doors pm_L_some_doors an_L_some_doors cd_L_some_doors ct_L_some_doors), sl_L_some_doors⟩)
    (c_L_some_doors0 : PySem.W.codeIn K cd_L_some_doors "_law_some_doors" = true)
    (k_L_some_doors : PySem.W.keepIn K (.ref f_L_some_doors) = true)
    (a_L_best_doors : PySem.W.nsIn K mainGlobals "_law_best_doors" = some (some (.ref f_L_best_doors)))
    (l_L_best_doors : K.lookup f_L_best_doors = some ⟨oc_L_best_doors, od_L_best_doors, .func (PySem.W.fnOf "_law_best_doors" "_law_best_doors" (defArgs s_L_best_doors) (defBody s_L_best_doors) (defScope s_L_best_doors) .none kV_L_best_doors dc_L_best_doors pm_L_best_doors an_L_best_doors cd_L_best_doors ct_L_best_doors), sl_L_best_doors⟩)
    (c_L_best_doors0 : PySem.W.codeIn K cd_L_best_doors "_law_best_doors" = true)
    (k_L_best_doors : PySem.W.keepIn K (.ref f_L_best_doors) = true)
    (a_L_best : PySem.W.nsIn K mainGlobals "_law_best" = some (some (.ref f_L_best)))
    (l_L_best : K.lookup f_L_best = some ⟨oc_L_best, od_L_best, .func (PySem.W.fnOf "_law_best" "_law_best" (defArgs s_L_best) (defBody s_L_best) (defScope s_L_best) .none kV_L_best dc_L_best pm_L_best an_L_best cd_L_best ct_L_best), sl_L_best⟩)
    (c_L_best0 : PySem.W.codeIn K cd_L_best "_law_best" = true)
    (k_L_best : PySem.W.keepIn K (.ref f_L_best) = true)
    (a_L_strange : PySem.W.nsIn K mainGlobals "_law_strange" = some (some (.ref f_L_strange)))
    (l_L_strange : K.lookup f_L_strange = some ⟨oc_L_strange, od_L_strange, .func (PySem.W.fnOf "_law_strange" "_law_strange" (defArgs s_L_strange) (defBody s_L_strange) (defScope s_L_strange) .none kV_L_strange dc_L_strange pm_L_strange an_L_strange cd_L_strange ct_L_strange), sl_L_strange⟩)
    (c_L_strange0 : PySem.W.codeIn K cd_L_strange "_law_strange" = true)
    (k_L_strange : PySem.W.keepIn K (.ref f_L_strange) = true)
    (a_L_spoil_doors : PySem.W.nsIn K mainGlobals "_law_spoil_doors" = some (some (.ref f_L_spoil_doors)))
    (l_L_spoil_doors : K.lookup f_L_spoil_doors = some ⟨oc_L_spoil_doors, od_L_spoil_doors, .func (PySem.W.fnOf "_law_spoil_doors" "_law_spoil_doors" (defArgs s_L_spoil_doors) (defBody s_L_spoil_doors) (defScope s_L_spoil_doors) .none kV_L_spoil_doors dc_L_spoil_doors pm_L_spoil_doors an_L_spoil_doors cd_L_spoil_doors ct_L_spoil_doors), sl_L_spoil_doors⟩)
    (c_L_spoil_doors0 : PySem.W.codeIn K cd_L_spoil_doors "_law_spoil_doors" = true)
    (k_L_spoil_doors : PySem.W.keepIn K (.ref f_L_spoil_doors) = true)
    (a_L_spoil_row : PySem.W.nsIn K mainGlobals "_law_spoil_row" = some (some (.ref f_L_spoil_row)))
    (l_L_spoil_row : K.lookup f_L_spoil_row = some ⟨oc_L_spoil_row, od_L_spoil_row, .func (PySem.W.fnOf "_law_spoil_row" "_law_spoil_row" (defArgs s_L_spoil_row) (defBody s_L_spoil_row) (defScope s_L_spoil_row) .none kV_L_spoil_row dc_L_spoil_row pm_L_spoil_row an_L_spoil_row cd_L_spoil_row ct_L_spoil_row), sl_L_spoil_row⟩)
    (c_L_spoil_row0 : PySem.W.codeIn K cd_L_spoil_row "_law_spoil_row" = true)
    (k_L_spoil_row : PySem.W.keepIn K (.ref f_L_spoil_row) = true)
    (a_L_spoil : PySem.W.nsIn K mainGlobals "_law_spoil" = some (some (.ref f_L_spoil)))
    (l_L_spoil : K.lookup f_L_spoil = some ⟨oc_L_spoil, od_L_spoil, .func (PySem.W.fnOf "_law_spoil" "_law_spoil" (defArgs s_L_spoil) (defBody s_L_spoil) (defScope s_L_spoil) .none kV_L_spoil dc_L_spoil pm_L_spoil an_L_spoil cd_L_spoil ct_L_spoil), sl_L_spoil⟩)
    (c_L_spoil0 : PySem.W.codeIn K cd_L_spoil "_law_spoil" = true)
    (k_L_spoil : PySem.W.keepIn K (.ref f_L_spoil) = true)
    (a_L_checks : PySem.W.nsIn K mainGlobals "_law_checks" = some (some (.ref f_L_checks)))
    (l_L_checks : K.lookup f_L_checks = some ⟨oc_L_checks, od_L_checks, .func (PySem.W.fnOf "_law_checks" "_law_checks" (defArgs s_L_checks) (defBody s_L_checks) (defScope s_L_checks) .none kV_L_checks dc_L_checks pm_L_checks an_L_checks cd_L_checks ct_L_checks), sl_L_checks⟩)
    (c_L_checks0 : PySem.W.codeIn K cd_L_checks "_law_checks" = true)
    (k_L_checks : PySem.W.keepIn K (.ref f_L_checks) = true)
    (a_L_made_paper : PySem.W.nsIn K mainGlobals "_law_made_paper" = some (some (.ref f_L_made_paper)))
    (l_L_made_paper : K.lookup f_L_made_paper = some ⟨oc_L_made_paper, od_L_made_paper, .func (PySem.W.fnOf "_law_made_paper" "_law_made_paper" (defArgs s_L_made_paper) (defBody s_L_made_paper) (defScope s_L_made_paper) .none kV_L_made_paper dc_L_made_paper pm_L_made_paper an_L_made_paper cd_L_made_paper ct_L_made_paper), sl_L_made_paper⟩)
    (c_L_made_paper0 : PySem.W.codeIn K cd_L_made_paper "_law_made_paper" = true)
    (k_L_made_paper : PySem.W.keepIn K (.ref f_L_made_paper) = true)
    (a_law : PySem.W.nsIn K mainGlobals "law" = some (some (.ref f_law)))
    (l_law : K.lookup f_law = some ⟨oc_law, od_law, .func (PySem.W.fnOf "law" "law" (defArgs s_law) (defBody s_law) (defScope s_law) .none kV_law dc_law pm_law an_law cd_law ct_law), sl_law⟩)
    (c_law0 : PySem.W.codeIn K cd_law "law" = true)
    (k_law : PySem.W.keepIn K (.ref f_law) = true)
    (nD : PySem.W.nsIn K DI "nodes" = some (some .none))
    (pg : PySem.W.plainGet K C Str.empty = true)
    (hd : PySem.W.hasDictIn K C = true)
    (po : PySem.W.plainOver K C = true)
    (sa : PySem.W.findIn K (.ref C) "__setattr__" = some (some (.builtin "object.__setattr__")))
    (mk : PySem.W.makesIn K C = true)
    (kc : PySem.W.keepIn K (.ref C) = true)
    (n1 : PySem.W.findIn K (.ref C) "size" = some none)
    (n2 : PySem.W.findIn K (.ref C) "prices" = some none)
    (n3 : PySem.W.findIn K (.ref C) "doors" = some none)
    (n4 : PySem.W.findIn K (.ref C) "nodes" = some none)
    (n5 : PySem.W.findIn K (.ref C) "_sums" = some none)
    (z_len : PySem.W.nsIn K mainGlobals "len" = some none)
    (z_range : PySem.W.nsIn K mainGlobals "range" = some none)
    (z_min : PySem.W.nsIn K mainGlobals "min" = some none)
    (z_max : PySem.W.nsIn K mainGlobals "max" = some none)
    (z_sum : PySem.W.nsIn K mainGlobals "sum" = some none)
    (z_sorted : PySem.W.nsIn K mainGlobals "sorted" = some none)
    (z_abs : PySem.W.nsIn K mainGlobals "abs" = some none)
    (z_isinstance : PySem.W.nsIn K mainGlobals "isinstance" = some none)
    (z_int : PySem.W.nsIn K mainGlobals "int" = some none)
    (z_bool : PySem.W.nsIn K mainGlobals "bool" = some none)
    (z_list : PySem.W.nsIn K mainGlobals "list" = some none)
    (z_tuple : PySem.W.nsIn K mainGlobals "tuple" = some none)
    (z_set : PySem.W.nsIn K mainGlobals "set" = some none) :
    ∃ fd : FuncData, (∀ (s : Shared) (v : Value), BindsTo s fd ⟨[v], []⟩ [("_law_script", v)]) ∧ ∀ base : Heap, K.In base → base.Ns mainGlobals mg → FnOk l.prog w K mg base CX0 8 fa fd ["_law_script"] (spLaw K) := by
  have e := hfa.symm.trans (PySem.W.mg_of X G a_law)
  cases e
  have T : Txt K mg C := ⟨PySem.W.mg_none_of X G z_len, PySem.W.mg_none_of X G z_range, PySem.W.mg_none_of X G z_min, PySem.W.mg_none_of X G z_max, PySem.W.mg_none_of X G z_sum, PySem.W.mg_none_of X G z_sorted, PySem.W.mg_none_of X G z_abs, PySem.W.mg_none_of X G z_isinstance, PySem.W.mg_none_of X G z_int, PySem.W.mg_none_of X G z_bool, PySem.W.mg_none_of X G z_list, PySem.W.mg_none_of X G z_tuple, PySem.W.mg_none_of X G z_set, ⟨pg, hd, po, sa⟩, n1, n2, n3, n4, n5⟩
  refine ⟨PySem.W.fnOf "law" "law" (defArgs s_law) (defBody s_law) (defScope s_law) .none kV_law dc_law pm_law an_law cd_law ct_law, fun s v => .of_eq rfl, fun base _ _ => ?_⟩
  have F_R_whole := fun_mk (st := s_R_whole) l_R_whole c_R_whole0 k_R_whole
  have b_R_whole := F_R_whole.binds (ps := ["self"]) fun _ _ _ _ _ _ us hl => match us, hl with | [_], _ => rfl
  have c_R_whole := met_of (P := l.prog) (w := w) (mg := mg) (base := base) T.cl ⟨a_R_whole, i_R_whole, k_R_whole⟩ (ok_R_whole T F_R_whole ) b_R_whole
  have F_R_far := fun_mk (st := s_R_far) l_R_far c_R_far0 k_R_far
  have b_R_far := F_R_far.binds (ps := ["self", "first", "second"]) fun _ _ _ _ _ _ us hl => match us, hl with | [_, _, _], _ => rfl
  have c_R_far := met_of (P := l.prog) (w := w) (mg := mg) (base := base) T.cl ⟨a_R_far, i_R_far, k_R_far⟩ (ok_R_far T F_R_far c_R_whole) b_R_far
  have F_P_way_round := fun_mk (st := s_P_way_round) l_P_way_round c_P_way_round0 k_P_way_round
  have b_P_way_round := F_P_way_round.binds (ps := ["ring", "first", "second"]) fun _ _ _ _ _ _ us hl => match us, hl with | [_, _, _], _ => rfl
  have c_P_way_round := cal_of (P := l.prog) (w := w) (base := base) (ok_P_way_round T F_P_way_round c_R_whole c_R_far) (PySem.W.mg_of X G a_P_way_round) k_P_way_round b_P_way_round
  have F_R_chosen := fun_mk (st := s_R_chosen) l_R_chosen c_R_chosen0 k_R_chosen
  have b_R_chosen := F_R_chosen.binds (ps := ["self", "doors"]) fun _ _ _ _ _ _ us hl => match us, hl with | [_, _], _ => rfl
  have c_R_chosen := met_of (P := l.prog) (w := w) (mg := mg) (base := base) T.cl ⟨a_R_chosen, i_R_chosen, k_R_chosen⟩ (ok_R_chosen T F_R_chosen ) b_R_chosen
  have F_R_gap := fun_mk (st := s_R_gap) l_R_gap c_R_gap0 k_R_gap
  have b_R_gap := F_R_gap.binds (ps := ["self", "chosen", "place"]) fun _ _ _ _ _ _ us hl => match us, hl with | [_, _, _], _ => rfl
  have c_R_gap := met_of (P := l.prog) (w := w) (mg := mg) (base := base) T.cl ⟨a_R_gap, i_R_gap, k_R_gap⟩ (ok_R_gap T F_R_gap c_R_whole c_R_far) b_R_gap
  have F_R_greatest_gap := fun_mk (st := s_R_greatest_gap) l_R_greatest_gap c_R_greatest_gap0 k_R_greatest_gap
  have c_R_greatest_gap : MetK l.prog w K mg base _ C "greatest_gap" _ f_R_greatest_gap _ ["self", "doors"] ["doors"] := ⟨⟨a_R_greatest_gap, i_R_greatest_gap, k_R_greatest_gap⟩, (ok_R_greatest_gap T F_R_greatest_gap c_R_chosen c_R_gap), ⟨fun s us ws _ h1 h2 => match us, ws, h1, h2 with | [_], [_], _, _ => .of_eq rfl, fun r1 r2 => Vals.append r1 r2⟩⟩
  have F_R_cost := fun_mk (st := s_R_cost) l_R_cost c_R_cost0 k_R_cost
  have c_R_cost : MetK l.prog w K mg base _ C "cost" _ f_R_cost _ ["self", "doors"] ["doors"] := ⟨⟨a_R_cost, i_R_cost, k_R_cost⟩, (ok_R_cost T F_R_cost c_R_whole c_R_greatest_gap), ⟨fun s us ws _ h1 h2 => match us, ws, h1, h2 with | [_], [_], _, _ => .of_eq rfl, fun r1 r2 => Vals.append r1 r2⟩⟩
  have F_P_check_ring := fun_mk (st := s_P_check_ring) l_P_check_ring c_P_check_ring0 k_P_check_ring
  have b_P_check_ring := F_P_check_ring.binds (ps := ["prices", "doors", "nodes"]) fun _ _ _ _ _ _ us hl => match us, hl with | [_, _, _], _ => rfl
  have c_P_check_ring := cal_of (P := l.prog) (w := w) (base := base) (ok_P_check_ring T F_P_check_ring ) (PySem.W.mg_of X G a_P_check_ring) k_P_check_ring b_P_check_ring
  have F_P_sums_of := fun_mk (st := s_P_sums_of) l_P_sums_of c_P_sums_of0 k_P_sums_of
  have b_P_sums_of := F_P_sums_of.binds (ps := ["prices"]) fun _ _ _ _ _ _ us hl => match us, hl with | [_], _ => rfl
  have c_P_sums_of := cal_of (P := l.prog) (w := w) (base := base) (ok_P_sums_of T F_P_sums_of ) (PySem.W.mg_of X G a_P_sums_of) k_P_sums_of b_P_sums_of
  have F_R_init := fun_mk (st := s_R_init) l_R_init c_R_init0 k_R_init
  have FD : FunD K "__init__" "Ring.__init__" (defArgs s_R_init) (defBody s_R_init) (defScope s_R_init) [] [("nodes", .non)] f_R_init _ := ⟨⟨_, _, .none, .ref DI, _, _, _, _, _, _, rfl, l_R_init, c_R_init0, .inl ⟨rfl, rfl⟩, .inr ⟨DI, rfl, fun q hq => by rw [List.mem_singleton.mp hq]; exact ⟨.none, nD, rfl⟩⟩⟩, k_R_init⟩
  have M : Mk K C f_R_init := ⟨mk, a_R_init, i_R_init, kc⟩
  have okI := ok_R_init (P := l.prog) (w := w) (mg := mg) (base := base) T F_R_init c_P_check_ring c_P_sums_of
  obtain ⟨dsI, vI, bI⟩ := FD.binds0 (ps := ["self", "prices", "doors", "nodes"]) 3 (by simp) rfl (fun D doc pm an cdv ct us ks h1 h2 => match us, ks, h1, h2 with | [_, _, _], [_], _, _ => ⟨_, _, _, _, _, _, rfl, rfl, rfl⟩)
  have c_R_init : C8.Mak l.prog w K mg base 2 "Ring" C (spInit C) [.non] := ⟨⟨f_R_init, _, _, dsI, M, okI, PySem.W.mg_of X G aC, bI, vI⟩⟩
  have c_R_initK : MakK l.prog w K mg base 2 "Ring" C (spInit C) f_R_init _ ["self", "prices", "doors", "nodes"] ["nodes"] 3 := ⟨M, okI, PySem.W.mg_of X G aC, ⟨fun s us ws _ h1 h2 => match us, ws, h1, h2 with | [_, _, _], [_], _, _ => .of_eq rfl, fun r1 r2 => Vals.append r1 r2⟩⟩
  have F_P_leaps_within := fun_mk (st := s_P_leaps_within) l_P_leaps_within c_P_leaps_within0 k_P_leaps_within
  have b_P_leaps_within := F_P_leaps_within.binds (ps := ["ring", "door", "lanes", "limit"]) fun _ _ _ _ _ _ us hl => match us, hl with | [_, _, _, _], _ => rfl
  have c_P_leaps_within := cal_of (P := l.prog) (w := w) (base := base) (ok_P_leaps_within T F_P_leaps_within c_P_way_round) (PySem.W.mg_of X G a_P_leaps_within) k_P_leaps_within b_P_leaps_within
  have F_P_leaps := fun_mk (st := s_P_leaps) l_P_leaps c_P_leaps0 k_P_leaps
  have b_P_leaps := F_P_leaps.binds (ps := ["ring", "door", "lanes", "cost"]) fun _ _ _ _ _ _ us hl => match us, hl with | [_, _, _, _], _ => rfl
  have c_P_leaps := cal_of (P := l.prog) (w := w) (base := base) (ok_P_leaps T F_P_leaps c_R_whole c_P_leaps_within) (PySem.W.mg_of X G a_P_leaps) k_P_leaps b_P_leaps
  have F_P_distinct := fun_mk (st := s_P_distinct) l_P_distinct c_P_distinct0 k_P_distinct
  have b_P_distinct := F_P_distinct.binds (ps := ["row"]) fun _ _ _ _ _ _ us hl => match us, hl with | [_], _ => rfl
  have c_P_distinct := cal_of (P := l.prog) (w := w) (base := base) (ok_P_distinct T F_P_distinct ) (PySem.W.mg_of X G a_P_distinct) k_P_distinct b_P_distinct
  have F_P_choice := fun_mk (st := s_P_choice_of_doors) l_P_choice c_P_choice0 k_P_choice
  have b_P_choice := F_P_choice.binds (ps := ["ring", "lanes", "cost"]) fun _ _ _ _ _ _ us hl => match us, hl with | [_, _, _], _ => rfl
  have c_P_choice_of_doors := cal_of (P := l.prog) (w := w) (base := base) (ok_P_choice T F_P_choice c_R_whole c_P_way_round c_P_leaps_within) (PySem.W.mg_of X G a_P_choice) k_P_choice b_P_choice
  have F_P_few_cost := fun_mk (st := s_P_few_cost) l_P_few_cost c_P_few_cost0 k_P_few_cost
  have b_P_few_cost := F_P_few_cost.binds (ps := ["ring", "lanes"]) fun _ _ _ _ _ _ us hl => match us, hl with | [_, _], _ => rfl
  have c_P_few_cost := cal_of (P := l.prog) (w := w) (base := base) (ok_P_few_cost T F_P_few_cost c_P_distinct c_R_far c_P_choice_of_doors) (PySem.W.mg_of X G a_P_few_cost) k_P_few_cost b_P_few_cost
  have F_P_few_paper := fun_mk (st := s_P_few_paper) l_P_few_paper c_P_few_paper0 k_P_few_paper
  have b_P_few_paper := F_P_few_paper.binds (ps := ["ring", "lanes"]) fun _ _ _ _ _ _ us hl => match us, hl with | [_, _], _ => rfl
  have c_P_few_paper := cal_of (P := l.prog) (w := w) (base := base) (ok_P_few_paper T F_P_few_paper c_P_few_cost c_P_leaps) (PySem.W.mg_of X G a_P_few_paper) k_P_few_paper b_P_few_paper
  have F_P_is_choice := fun_mk (st := s_P_is_choice) l_P_is_choice c_P_is_choice0 k_P_is_choice
  have b_P_is_choice := F_P_is_choice.binds (ps := ["ring", "lanes", "doors"]) fun _ _ _ _ _ _ us hl => match us, hl with | [_, _, _], _ => rfl
  have c_P_is_choice := cal_of (P := l.prog) (w := w) (base := base) (ok_P_is_choice T F_P_is_choice ) (PySem.W.mg_of X G a_P_is_choice) k_P_is_choice b_P_is_choice
  have F_P_check_few := fun_mk (st := s_P_check_few) l_P_check_few c_P_check_few0 k_P_check_few
  have b_P_check_few := F_P_check_few.binds (ps := ["ring", "lanes", "paper"]) fun _ _ _ _ _ _ us hl => match us, hl with | [_, _, _], _ => rfl
  have c_P_check_few := cal_of (P := l.prog) (w := w) (base := base) (ok_P_check_few T F_P_check_few c_R_whole c_P_is_choice c_R_cost c_P_leaps c_P_way_round) (PySem.W.mg_of X G a_P_check_few) k_P_check_few b_P_check_few
  have F_L_cell := fun_mk (st := s_L_cell) l_L_cell c_L_cell0 k_L_cell
  have b_L_cell := F_L_cell.binds (ps := ["_law_script", "_law_k"]) fun _ _ _ _ _ _ us hl => match us, hl with | [_, _], _ => rfl
  have c_L_cell := cal_of (P := l.prog) (w := w) (base := base) (ok_L_cell T F_L_cell ) (PySem.W.mg_of X G a_L_cell) k_L_cell b_L_cell
  have F_L_digits := fun_mk (st := s_L_digits) l_L_digits c_L_digits0 k_L_digits
  have b_L_digits := F_L_digits.binds (ps := ["_law_cell_here", "_law_count", "_law_size"]) fun _ _ _ _ _ _ us hl => match us, hl with | [_, _, _], _ => rfl
  have c_L_digits := cal_of (P := l.prog) (w := w) (base := base) (ok_L_digits T F_L_digits ) (PySem.W.mg_of X G a_L_digits) k_L_digits b_L_digits
  have F_L_seed := fun_mk (st := s_L_seed) l_L_seed c_L_seed0 k_L_seed
  have b_L_seed := F_L_seed.binds (ps := ["_law_script", "_law_k"]) fun _ _ _ _ _ _ us hl => match us, hl with | [_, _], _ => rfl
  have c_L_seed := cal_of (P := l.prog) (w := w) (base := base) (ok_L_seed T F_L_seed c_L_cell c_L_digits) (PySem.W.mg_of X G a_L_seed) k_L_seed b_L_seed
  have F_L_price := fun_mk (st := s_L_price) l_L_price c_L_price0 k_L_price
  have b_L_price := F_L_price.binds (ps := ["_law_digit"]) fun _ _ _ _ _ _ us hl => match us, hl with | [_], _ => rfl
  have c_L_price := cal_of (P := l.prog) (w := w) (base := base) (ok_L_price T F_L_price ) (PySem.W.mg_of X G a_L_price) k_L_price b_L_price
  have F_L_is_int := fun_mk (st := s_L_is_int) l_L_is_int c_L_is_int0 k_L_is_int
  have b_L_is_int := F_L_is_int.binds (ps := ["_law_value"]) fun _ _ _ _ _ _ us hl => match us, hl with | [_], _ => rfl
  have c_L_is_int := cal_of (P := l.prog) (w := w) (base := base) (ok_L_is_int T F_L_is_int ) (PySem.W.mg_of X G a_L_is_int) k_L_is_int b_L_is_int
  have F_L_ints := fun_mk (st := s_L_ints) l_L_ints c_L_ints0 k_L_ints
  have b_L_ints := F_L_ints.binds (ps := ["_law_row"]) fun _ _ _ _ _ _ us hl => match us, hl with | [_], _ => rfl
  have c_L_ints := cal_of (P := l.prog) (w := w) (base := base) (ok_L_ints T F_L_ints c_L_is_int) (PySem.W.mg_of X G a_L_ints) k_L_ints b_L_ints
  have F_L_sums := fun_mk (st := s_L_sums) l_L_sums c_L_sums0 k_L_sums
  have b_L_sums := F_L_sums.binds (ps := ["_law_prices"]) fun _ _ _ _ _ _ us hl => match us, hl with | [_], _ => rfl
  have c_L_sums := cal_of (P := l.prog) (w := w) (base := base) (ok_L_sums T F_L_sums ) (PySem.W.mg_of X G a_L_sums) k_L_sums b_L_sums
  have F_L_back := fun_mk (st := s_L_back) l_L_back c_L_back0 k_L_back
  have b_L_back := F_L_back.binds (ps := ["_law_sums_here", "_law_last", "_law_first"]) fun _ _ _ _ _ _ us hl => match us, hl with | [_, _, _], _ => rfl
  have c_L_back := cal_of (P := l.prog) (w := w) (base := base) (ok_L_back T F_L_back ) (PySem.W.mg_of X G a_L_back) k_L_back b_L_back
  have F_L_far := fun_mk (st := s_L_far) l_L_far c_L_far0 k_L_far
  have b_L_far := F_L_far.binds (ps := ["_law_prices", "_law_start", "_law_end"]) fun _ _ _ _ _ _ us hl => match us, hl with | [_, _, _], _ => rfl
  have c_L_far := cal_of (P := l.prog) (w := w) (base := base) (ok_L_far T F_L_far ) (PySem.W.mg_of X G a_L_far) k_L_far b_L_far
  have F_L_gap := fun_mk (st := s_L_gap) l_L_gap c_L_gap0 k_L_gap
  have b_L_gap := F_L_gap.binds (ps := ["_law_prices", "_law_gates", "_law_k"]) fun _ _ _ _ _ _ us hl => match us, hl with | [_, _, _], _ => rfl
  have c_L_gap := cal_of (P := l.prog) (w := w) (base := base) (ok_L_gap T F_L_gap c_L_far) (PySem.W.mg_of X G a_L_gap) k_L_gap b_L_gap
  have F_L_cost := fun_mk (st := s_L_cost) l_L_cost c_L_cost0 k_L_cost
  have b_L_cost := F_L_cost.binds (ps := ["_law_prices", "_law_gates"]) fun _ _ _ _ _ _ us hl => match us, hl with | [_, _], _ => rfl
  have c_L_cost := cal_of (P := l.prog) (w := w) (base := base) (ok_L_cost T F_L_cost c_L_gap) (PySem.W.mg_of X G a_L_cost) k_L_cost b_L_cost
  have F_L_is_set := fun_mk (st := s_L_is_set) l_L_is_set c_L_is_set0 k_L_is_set
  have b_L_is_set := F_L_is_set.binds (ps := ["_law_gates", "_law_count", "_law_chosen"]) fun _ _ _ _ _ _ us hl => match us, hl with | [_, _, _], _ => rfl
  have c_L_is_set := cal_of (P := l.prog) (w := w) (base := base) (ok_L_is_set T F_L_is_set ) (PySem.W.mg_of X G a_L_is_set) k_L_is_set b_L_is_set
  have F_L_leaps := fun_mk (st := s_L_leaps) l_L_leaps c_L_leaps0 k_L_leaps
  have b_L_leaps := F_L_leaps.binds (ps := ["_law_sums_here", "_law_gates", "_law_first", "_law_count", "_law_cost_here"]) fun _ _ _ _ _ _ us hl => match us, hl with | [_, _, _, _, _], _ => rfl
  have c_L_leaps := cal_of (P := l.prog) (w := w) (base := base) (ok_L_leaps T F_L_leaps c_L_back) (PySem.W.mg_of X G a_L_leaps) k_L_leaps b_L_leaps
  have F_L_drawn := fun_mk (st := s_L_drawn) l_L_drawn c_L_drawn0 k_L_drawn
  have b_L_drawn := F_L_drawn.binds (ps := ["_law_cell_here", "_law_most", "_law_many"]) fun _ _ _ _ _ _ us hl => match us, hl with | [_, _, _], _ => rfl
  have c_L_drawn := cal_of (P := l.prog) (w := w) (base := base) (ok_L_drawn T F_L_drawn c_L_digits c_L_price) (PySem.W.mg_of X G a_L_drawn) k_L_drawn b_L_drawn
  have F_L_made := fun_mk (st := s_L_made) l_L_made c_L_made0 k_L_made
  have b_L_made := F_L_made.binds (ps := ["_law_drawn_here", "_law_digit"]) fun _ _ _ _ _ _ us hl => match us, hl with | [_, _], _ => rfl
  have c_L_made := cal_of (P := l.prog) (w := w) (base := base) (ok_L_made T F_L_made c_R_init c_R_initK) (PySem.W.mg_of X G a_L_made) k_L_made b_L_made
  have F_L_copied := fun_mk (st := s_L_copied) l_L_copied c_L_copied0 k_L_copied
  have b_L_copied := F_L_copied.binds (ps := ["_law_paper"]) fun _ _ _ _ _ _ us hl => match us, hl with | [_], _ => rfl
  have c_L_copied := cal_of (P := l.prog) (w := w) (base := base) (ok_L_copied T F_L_copied ) (PySem.W.mg_of X G a_L_copied) k_L_copied b_L_copied
  have F_L_is_paper := fun_mk (st := s_L_is_paper) l_L_is_paper c_L_is_paper0 k_L_is_paper
  have b_L_is_paper := F_L_is_paper.binds (ps := ["_law_told"]) fun _ _ _ _ _ _ us hl => match us, hl with | [_], _ => rfl
  have c_L_is_paper := cal_of (P := l.prog) (w := w) (base := base) (ok_L_is_paper T F_L_is_paper c_L_is_int c_L_ints) (PySem.W.mg_of X G a_L_is_paper) k_L_is_paper b_L_is_paper
  have F_L_holds := fun_mk (st := s_L_holds) l_L_holds c_L_holds0 k_L_holds
  have b_L_holds := F_L_holds.binds (ps := ["_law_drawn_here", "_law_count", "_law_paper"]) fun _ _ _ _ _ _ us hl => match us, hl with | [_, _, _], _ => rfl
  have c_L_holds := cal_of (P := l.prog) (w := w) (base := base) (ok_L_holds T F_L_holds c_L_is_set c_L_cost c_L_sums c_L_leaps c_L_back) (PySem.W.mg_of X G a_L_holds) k_L_holds b_L_holds
  have F_L_paper_of := fun_mk (st := s_L_paper_of) l_L_paper_of c_L_paper_of0 k_L_paper_of
  have b_L_paper_of := F_L_paper_of.binds (ps := ["_law_drawn_here", "_law_count", "_law_chosen"]) fun _ _ _ _ _ _ us hl => match us, hl with | [_, _, _], _ => rfl
  have c_L_paper_of := cal_of (P := l.prog) (w := w) (base := base) (ok_L_paper_of T F_L_paper_of c_L_cost c_L_sums c_L_leaps) (PySem.W.mg_of X G a_L_paper_of) k_L_paper_of b_L_paper_of
  have F_L_some_doors := fun_mk (st := s_L_some_doors) l_L_some_doors c_L_some_doors0 k_L_some_doors
  have b_L_some_doors := F_L_some_doors.binds (ps := ["_law_drawn_here", "_law_digit"]) fun _ _ _ _ _ _ us hl => match us, hl with | [_, _], _ => rfl
  have c_L_some_doors := cal_of (P := l.prog) (w := w) (base := base) (ok_L_some_doors T F_L_some_doors ) (PySem.W.mg_of X G a_L_some_doors) k_L_some_doors b_L_some_doors
  have F_L_best_doors := fun_mk (st := s_L_best_doors) l_L_best_doors c_L_best_doors0 k_L_best_doors
  have b_L_best_doors := F_L_best_doors.binds (ps := ["_law_drawn_here", "_law_count", "_law_most", "_law_digit"]) fun _ _ _ _ _ _ us hl => match us, hl with | [_, _, _, _], _ => rfl
  have c_L_best_doors := cal_of (P := l.prog) (w := w) (base := base) (ok_L_best_doors T F_L_best_doors c_L_some_doors c_L_cost) (PySem.W.mg_of X G a_L_best_doors) k_L_best_doors b_L_best_doors
  have F_L_best := fun_mk (st := s_L_best) l_L_best c_L_best0 k_L_best
  have b_L_best := F_L_best.binds (ps := ["_law_prices", "_law_gates"]) fun _ _ _ _ _ _ us hl => match us, hl with | [_, _], _ => rfl
  have c_L_best := cal_of (P := l.prog) (w := w) (base := base) (ok_L_best T F_L_best c_L_cost) (PySem.W.mg_of X G a_L_best) k_L_best b_L_best
  have F_L_strange := fun_mk (st := s_L_strange) l_L_strange c_L_strange0 k_L_strange
  have b_L_strange := F_L_strange.binds (ps := ["_law_drawn_here", "_law_digit"]) fun _ _ _ _ _ _ us hl => match us, hl with | [_, _], _ => rfl
  have c_L_strange := cal_of (P := l.prog) (w := w) (base := base) (ok_L_strange T F_L_strange ) (PySem.W.mg_of X G a_L_strange) k_L_strange b_L_strange
  have F_L_spoil_doors := fun_mk (st := s_L_spoil_doors) l_L_spoil_doors c_L_spoil_doors0 k_L_spoil_doors
  have b_L_spoil_doors := F_L_spoil_doors.binds (ps := ["_law_drawn_here", "_law_chosen", "_law_kind", "_law_digit"]) fun _ _ _ _ _ _ us hl => match us, hl with | [_, _, _, _], _ => rfl
  have c_L_spoil_doors := cal_of (P := l.prog) (w := w) (base := base) (ok_L_spoil_doors T F_L_spoil_doors c_L_strange) (PySem.W.mg_of X G a_L_spoil_doors) k_L_spoil_doors b_L_spoil_doors
  have F_L_spoil_row := fun_mk (st := s_L_spoil_row) l_L_spoil_row c_L_spoil_row0 k_L_spoil_row
  have b_L_spoil_row := F_L_spoil_row.binds (ps := ["_law_drawn_here", "_law_row", "_law_kind", "_law_digit"]) fun _ _ _ _ _ _ us hl => match us, hl with | [_, _, _, _], _ => rfl
  have c_L_spoil_row := cal_of (P := l.prog) (w := w) (base := base) (ok_L_spoil_row T F_L_spoil_row c_L_strange) (PySem.W.mg_of X G a_L_spoil_row) k_L_spoil_row b_L_spoil_row
  have F_L_spoil := fun_mk (st := s_L_spoil) l_L_spoil c_L_spoil0 k_L_spoil
  have b_L_spoil := F_L_spoil.binds (ps := ["_law_drawn_here", "_law_paper", "_law_digit", "_law_more"]) fun _ _ _ _ _ _ us hl => match us, hl with | [_, _, _, _], _ => rfl
  have c_L_spoil := cal_of (P := l.prog) (w := w) (base := base) (ok_L_spoil T F_L_spoil c_L_copied c_L_spoil_doors c_L_spoil_row) (PySem.W.mg_of X G a_L_spoil) k_L_spoil b_L_spoil
  have F_L_checks := fun_mk (st := s_L_checks) l_L_checks c_L_checks0 k_L_checks
  have b_L_checks := F_L_checks.binds (ps := ["_law_ring", "_law_drawn_here", "_law_count", "_law_paper"]) fun _ _ _ _ _ _ us hl => match us, hl with | [_, _, _, _], _ => rfl
  have c_L_checks := cal_of (P := l.prog) (w := w) (base := base) (ok_L_checks T F_L_checks c_L_copied c_L_holds c_P_check_few) (PySem.W.mg_of X G a_L_checks) k_L_checks b_L_checks
  have F_L_made_paper := fun_mk (st := s_L_made_paper) l_L_made_paper c_L_made_paper0 k_L_made_paper
  have b_L_made_paper := F_L_made_paper.binds (ps := ["_law_drawn_here", "_law_count", "_law_told", "_law_choices", "_law_small"]) fun _ _ _ _ _ _ us hl => match us, hl with | [_, _, _, _, _], _ => rfl
  have c_L_made_paper := cal_of (P := l.prog) (w := w) (base := base) (ok_L_made_paper T F_L_made_paper c_L_copied c_L_paper_of c_L_best_doors c_L_some_doors) (PySem.W.mg_of X G a_L_made_paper) k_L_made_paper b_L_made_paper
  have F_law := fun_mk (st := s_law) l_law c_law0 k_law
  exact ok_law T F_law c_L_digits c_L_seed c_L_drawn c_L_made c_P_few_paper c_L_is_paper c_L_holds c_L_best c_L_copied c_L_made_paper c_L_checks c_L_spoil c_P_check_few c_P_few_cost c_L_ints c_L_is_set c_L_cost c_L_is_int
theorem walk {l : PySem.W.OpenLaw} {q : Program} {loose : List Str} {XP : (Str → Option Value) → Heap → Prop} {YP : World → Heap → Prop} {d : DefRec} {K : Params → PySem.W.Frag} (hn : l.most = some 63) (hdf : d.params.defaults = [])
    (hY : ∀ (w : World) (h : Heap), YP w h → (K w.params).In h)
    (F : ∀ (w : World) (mg : Str → Option Value) (fa : Addr) (h : Heap), (K w.params).In h → h.Ns mainGlobals mg → mg d.name = some (.ref fa) →
      ∃ fd : FuncData, (∀ (s : Shared) (u : Value), BindsTo s fd ⟨[u], []⟩ [("_law_script", u)]) ∧ ∀ base : Heap, (K w.params).In base → base.Ns mainGlobals mg → FnOk l.prog w (K w.params) mg base CX0 8 fa fd ["_law_script"] (spLaw (K w.params))) :
    PySem.W.WalkO q loose XP YP l.row.toRowW d [] (fun f vs => PySem.call f vs) :=
  L2.walk_of (n := 63) (k := 8) (x := "_law_script") (CX := fun _ => CX0) (sp := fun w => spLaw (K w.params)) hn (by decide) hdf ⟨rfl, by decide, by decide⟩ hY F (fun _ _ a ns hl ho hS => ⟨nd_only ho, a, ns, rfl, hS, fun _ => rfl⟩) fun _ _ _ _ _ z => z
end Fp

open PySem PySem.W PyProof.Rows in
set_option maxRecDepth 100000 in
set_option maxHeartbeats 0 in
theorem PySem.Challenge.cw_foreworth_k41_whole_few_papers_holds : PySem.Challenge.rw_foreworth_k41_whole_few_papers.Holds := by
  w_on; o_law; k_head; (case hw => w_witness2)
  k_fill
  refine Fp.walk (l := PySem.Challenge.rw_foreworth_k41_whole_few_papers) rfl rfl (fun w h Y => PySem.W.kIn_of Y) ?F
  case F =>
    intro w mg fa h KX G hmg
    refine' Fp.all_mk KX G hmg ?aC ?a_R_whole ?i_R_whole ?l_R_whole ?c_R_whole0 ?k_R_whole ?a_R_far ?i_R_far ?l_R_far ?c_R_far0 ?k_R_far ?a_P_way_round ?l_P_way_round ?c_P_way_round0 ?k_P_way_round ?a_R_chosen ?i_R_chosen ?l_R_chosen ?c_R_chosen0 ?k_R_chosen ?a_R_gap ?i_R_gap ?l_R_gap ?c_R_gap0 ?k_R_gap ?a_R_greatest_gap ?i_R_greatest_gap ?l_R_greatest_gap ?c_R_greatest_gap0 ?k_R_greatest_gap ?a_R_cost ?i_R_cost ?l_R_cost ?c_R_cost0 ?k_R_cost ?a_P_check_ring ?l_P_check_ring ?c_P_check_ring0 ?k_P_check_ring ?a_P_sums_of ?l_P_sums_of ?c_P_sums_of0 ?k_P_sums_of ?a_R_init ?i_R_init ?l_R_init ?c_R_init0 ?k_R_init ?a_P_leaps_within ?l_P_leaps_within ?c_P_leaps_within0 ?k_P_leaps_within ?a_P_leaps ?l_P_leaps ?c_P_leaps0 ?k_P_leaps ?a_P_distinct ?l_P_distinct ?c_P_distinct0 ?k_P_distinct ?a_P_choice ?l_P_choice ?c_P_choice0 ?k_P_choice ?a_P_few_cost ?l_P_few_cost ?c_P_few_cost0 ?k_P_few_cost ?a_P_few_paper ?l_P_few_paper ?c_P_few_paper0 ?k_P_few_paper ?a_P_is_choice ?l_P_is_choice ?c_P_is_choice0 ?k_P_is_choice ?a_P_check_few ?l_P_check_few ?c_P_check_few0 ?k_P_check_few ?a_L_cell ?l_L_cell ?c_L_cell0 ?k_L_cell ?a_L_digits ?l_L_digits ?c_L_digits0 ?k_L_digits ?a_L_seed ?l_L_seed ?c_L_seed0 ?k_L_seed ?a_L_price ?l_L_price ?c_L_price0 ?k_L_price ?a_L_is_int ?l_L_is_int ?c_L_is_int0 ?k_L_is_int ?a_L_ints ?l_L_ints ?c_L_ints0 ?k_L_ints ?a_L_sums ?l_L_sums ?c_L_sums0 ?k_L_sums ?a_L_back ?l_L_back ?c_L_back0 ?k_L_back ?a_L_far ?l_L_far ?c_L_far0 ?k_L_far ?a_L_gap ?l_L_gap ?c_L_gap0 ?k_L_gap ?a_L_cost ?l_L_cost ?c_L_cost0 ?k_L_cost ?a_L_is_set ?l_L_is_set ?c_L_is_set0 ?k_L_is_set ?a_L_leaps ?l_L_leaps ?c_L_leaps0 ?k_L_leaps ?a_L_drawn ?l_L_drawn ?c_L_drawn0 ?k_L_drawn ?a_L_made ?l_L_made ?c_L_made0 ?k_L_made ?a_L_copied ?l_L_copied ?c_L_copied0 ?k_L_copied ?a_L_is_paper ?l_L_is_paper ?c_L_is_paper0 ?k_L_is_paper ?a_L_holds ?l_L_holds ?c_L_holds0 ?k_L_holds ?a_L_paper_of ?l_L_paper_of ?c_L_paper_of0 ?k_L_paper_of ?a_L_some_doors ?l_L_some_doors ?c_L_some_doors0 ?k_L_some_doors ?a_L_best_doors ?l_L_best_doors ?c_L_best_doors0 ?k_L_best_doors ?a_L_best ?l_L_best ?c_L_best0 ?k_L_best ?a_L_strange ?l_L_strange ?c_L_strange0 ?k_L_strange ?a_L_spoil_doors ?l_L_spoil_doors ?c_L_spoil_doors0 ?k_L_spoil_doors ?a_L_spoil_row ?l_L_spoil_row ?c_L_spoil_row0 ?k_L_spoil_row ?a_L_spoil ?l_L_spoil ?c_L_spoil0 ?k_L_spoil ?a_L_checks ?l_L_checks ?c_L_checks0 ?k_L_checks ?a_L_made_paper ?l_L_made_paper ?c_L_made_paper0 ?k_L_made_paper ?a_law ?l_law ?c_law0 ?k_law ?nD ?pg ?hd ?po ?sa ?mk ?kc ?n1 ?n2 ?n3 ?n4 ?n5 ?z_len ?z_range ?z_min ?z_max ?z_sum ?z_sorted ?z_abs ?z_isinstance ?z_int ?z_bool ?z_list ?z_tuple ?z_set
    (case aC => k_is)
    (case a_R_whole => k_is)
    (case i_R_whole => k_is)
    (case l_R_whole => k_is)
    (case c_R_whole0 => k_is)
    (case k_R_whole => k_is)
    (case a_R_far => k_is)
    (case i_R_far => k_is)
    (case l_R_far => k_is)
    (case c_R_far0 => k_is)
    (case k_R_far => k_is)
    (case a_P_way_round => k_is)
    (case l_P_way_round => k_is)
    (case c_P_way_round0 => k_is)
    (case k_P_way_round => k_is)
    (case a_R_chosen => k_is)
    (case i_R_chosen => k_is)
    (case l_R_chosen => k_is)
    (case c_R_chosen0 => k_is)
    (case k_R_chosen => k_is)
    (case a_R_gap => k_is)
    (case i_R_gap => k_is)
    (case l_R_gap => k_is)
    (case c_R_gap0 => k_is)
    (case k_R_gap => k_is)
    (case a_R_greatest_gap => k_is)
    (case i_R_greatest_gap => k_is)
    (case l_R_greatest_gap => k_is)
    (case c_R_greatest_gap0 => k_is)
    (case k_R_greatest_gap => k_is)
    (case a_R_cost => k_is)
    (case i_R_cost => k_is)
    (case l_R_cost => k_is)
    (case c_R_cost0 => k_is)
    (case k_R_cost => k_is)
    (case a_P_check_ring => k_is)
    (case l_P_check_ring => k_is)
    (case c_P_check_ring0 => k_is)
    (case k_P_check_ring => k_is)
    (case a_P_sums_of => k_is)
    (case l_P_sums_of => k_is)
    (case c_P_sums_of0 => k_is)
    (case k_P_sums_of => k_is)
    (case a_R_init => k_is)
    (case i_R_init => k_is)
    (case l_R_init => k_is)
    (case c_R_init0 => k_is)
    (case k_R_init => k_is)
    (case a_P_leaps_within => k_is)
    (case l_P_leaps_within => k_is)
    (case c_P_leaps_within0 => k_is)
    (case k_P_leaps_within => k_is)
    (case a_P_leaps => k_is)
    (case l_P_leaps => k_is)
    (case c_P_leaps0 => k_is)
    (case k_P_leaps => k_is)
    (case a_P_distinct => k_is)
    (case l_P_distinct => k_is)
    (case c_P_distinct0 => k_is)
    (case k_P_distinct => k_is)
    (case a_P_choice => k_is)
    (case l_P_choice => k_is)
    (case c_P_choice0 => k_is)
    (case k_P_choice => k_is)
    (case a_P_few_cost => k_is)
    (case l_P_few_cost => k_is)
    (case c_P_few_cost0 => k_is)
    (case k_P_few_cost => k_is)
    (case a_P_few_paper => k_is)
    (case l_P_few_paper => k_is)
    (case c_P_few_paper0 => k_is)
    (case k_P_few_paper => k_is)
    (case a_P_is_choice => k_is)
    (case l_P_is_choice => k_is)
    (case c_P_is_choice0 => k_is)
    (case k_P_is_choice => k_is)
    (case a_P_check_few => k_is)
    (case l_P_check_few => k_is)
    (case c_P_check_few0 => k_is)
    (case k_P_check_few => k_is)
    (case a_L_cell => k_is)
    (case l_L_cell => k_is)
    (case c_L_cell0 => k_is)
    (case k_L_cell => k_is)
    (case a_L_digits => k_is)
    (case l_L_digits => k_is)
    (case c_L_digits0 => k_is)
    (case k_L_digits => k_is)
    (case a_L_seed => k_is)
    (case l_L_seed => k_is)
    (case c_L_seed0 => k_is)
    (case k_L_seed => k_is)
    (case a_L_price => k_is)
    (case l_L_price => k_is)
    (case c_L_price0 => k_is)
    (case k_L_price => k_is)
    (case a_L_is_int => k_is)
    (case l_L_is_int => k_is)
    (case c_L_is_int0 => k_is)
    (case k_L_is_int => k_is)
    (case a_L_ints => k_is)
    (case l_L_ints => k_is)
    (case c_L_ints0 => k_is)
    (case k_L_ints => k_is)
    (case a_L_sums => k_is)
    (case l_L_sums => k_is)
    (case c_L_sums0 => k_is)
    (case k_L_sums => k_is)
    (case a_L_back => k_is)
    (case l_L_back => k_is)
    (case c_L_back0 => k_is)
    (case k_L_back => k_is)
    (case a_L_far => k_is)
    (case l_L_far => k_is)
    (case c_L_far0 => k_is)
    (case k_L_far => k_is)
    (case a_L_gap => k_is)
    (case l_L_gap => k_is)
    (case c_L_gap0 => k_is)
    (case k_L_gap => k_is)
    (case a_L_cost => k_is)
    (case l_L_cost => k_is)
    (case c_L_cost0 => k_is)
    (case k_L_cost => k_is)
    (case a_L_is_set => k_is)
    (case l_L_is_set => k_is)
    (case c_L_is_set0 => k_is)
    (case k_L_is_set => k_is)
    (case a_L_leaps => k_is)
    (case l_L_leaps => k_is)
    (case c_L_leaps0 => k_is)
    (case k_L_leaps => k_is)
    (case a_L_drawn => k_is)
    (case l_L_drawn => k_is)
    (case c_L_drawn0 => k_is)
    (case k_L_drawn => k_is)
    (case a_L_made => k_is)
    (case l_L_made => k_is)
    (case c_L_made0 => k_is)
    (case k_L_made => k_is)
    (case a_L_copied => k_is)
    (case l_L_copied => k_is)
    (case c_L_copied0 => k_is)
    (case k_L_copied => k_is)
    (case a_L_is_paper => k_is)
    (case l_L_is_paper => k_is)
    (case c_L_is_paper0 => k_is)
    (case k_L_is_paper => k_is)
    (case a_L_holds => k_is)
    (case l_L_holds => k_is)
    (case c_L_holds0 => k_is)
    (case k_L_holds => k_is)
    (case a_L_paper_of => k_is)
    (case l_L_paper_of => k_is)
    (case c_L_paper_of0 => k_is)
    (case k_L_paper_of => k_is)
    (case a_L_some_doors => k_is)
    (case l_L_some_doors => k_is)
    (case c_L_some_doors0 => k_is)
    (case k_L_some_doors => k_is)
    (case a_L_best_doors => k_is)
    (case l_L_best_doors => k_is)
    (case c_L_best_doors0 => k_is)
    (case k_L_best_doors => k_is)
    (case a_L_best => k_is)
    (case l_L_best => k_is)
    (case c_L_best0 => k_is)
    (case k_L_best => k_is)
    (case a_L_strange => k_is)
    (case l_L_strange => k_is)
    (case c_L_strange0 => k_is)
    (case k_L_strange => k_is)
    (case a_L_spoil_doors => k_is)
    (case l_L_spoil_doors => k_is)
    (case c_L_spoil_doors0 => k_is)
    (case k_L_spoil_doors => k_is)
    (case a_L_spoil_row => k_is)
    (case l_L_spoil_row => k_is)
    (case c_L_spoil_row0 => k_is)
    (case k_L_spoil_row => k_is)
    (case a_L_spoil => k_is)
    (case l_L_spoil => k_is)
    (case c_L_spoil0 => k_is)
    (case k_L_spoil => k_is)
    (case a_L_checks => k_is)
    (case l_L_checks => k_is)
    (case c_L_checks0 => k_is)
    (case k_L_checks => k_is)
    (case a_L_made_paper => k_is)
    (case l_L_made_paper => k_is)
    (case c_L_made_paper0 => k_is)
    (case k_L_made_paper => k_is)
    (case a_law => k_is)
    (case l_law => k_is)
    (case c_law0 => k_is)
    (case k_law => k_is)
    (case nD => k_is)
    (case pg => k_is)
    (case hd => k_is)
    (case po => k_is)
    (case sa => k_is)
    (case mk => k_is)
    (case kc => k_is)
    (case n1 => k_is)
    (case n2 => k_is)
    (case n3 => k_is)
    (case n4 => k_is)
    (case n5 => k_is)
    (case z_len => k_is)
    (case z_range => k_is)
    (case z_min => k_is)
    (case z_max => k_is)
    (case z_sum => k_is)
    (case z_sorted => k_is)
    (case z_abs => k_is)
    (case z_isinstance => k_is)
    (case z_int => k_is)
    (case z_bool => k_is)
    (case z_list => k_is)
    (case z_tuple => k_is)
    (case z_set => k_is)
