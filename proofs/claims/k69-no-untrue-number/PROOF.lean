import PyProof.Rows.All
import Wide.All
import OpenK.AllK
import Wide.FinOn
import KE.KStateDown
import Lean
import HandS.ForMost
import HandS.More
import HandS.SetFor
import HandS.SortInts
import HandS.Deep
import HandS.TupAny
import HandS.TupLe
import HandS.Strs
import HandS.Conv
import HandS.RevTup
import HandS.Zip
import HandS.Wide
import HandS.Flow
import HandS.WordsExc
import HandS.Defaults
import HandS.Head0
import HandS.Head1
import HandS.Head2
import HandS.HeadEnd
import HandS.HeadHook1
import HandS.HeadHook2
import KE.SortData
import PySem.Challenge.RW_neededrows_k69_whole_no_untrue_number
set_option Elab.async false
set_option linter.all false
set_option maxRecDepth 100000
set_option maxHeartbeats 4000000
/-! N0: heaps in two parts, relations of values and data, loops -/
namespace N
open PySem L2

/-! ### a heap in two parts: what never changes (G), what may (M) -/
def del (M : Hp) (a : Addr) : Hp := fun b => if b = a then none else M b
theorem del_same {M : Hp} {a : Addr} : del M a a = none := by unfold del; rw [if_pos rfl]
theorem del_ne {M : Hp} {a b : Addr} (h : b ≠ a) : del M a b = M b := by unfold del; rw [if_neg h]
structure Hs (G M H : Hp) : Prop where
  g : ∀ a o, G a = some o → H a = some o
  m : ∀ a o, M a = some o → H a = some o
  no : ∀ a, G a = none → M a = none → H a = none
  dj : ∀ a o, G a = some o → M a = none
theorem none_of {o : Option HO} (h : ∀ u, o = some u → False) : o = none := by
  cases o with
  | none => rfl
  | some u => exact (h u rfl).elim
section
variable {G M H : Hp} {p a : Addr} {o o2 : HO}
theorem Hs.fg (S : Hs G M H) (h : H p = none) : G p = none :=
  none_of fun u e => by have := S.g _ _ e; rw [h] at this; cases this
theorem Hs.fm (S : Hs G M H) (h : H p = none) : M p = none :=
  none_of fun u e => by have := S.m _ _ e; rw [h] at this; cases this
theorem Hs.mg (S : Hs G M H) (h : M a = some o) : G a = none :=
  none_of fun u e => by have := S.dj _ _ e; rw [h] at this; cases this
theorem Hs.newG (S : Hs G M H) (h : H p = none) : Hs (upd G p o) M (upd H p o) := by
  refine ⟨fun b u e => ?_, fun b u e => ?_, fun b e1 e2 => ?_, fun b u e => ?_⟩
  · by_cases hb : b = p
    · subst hb; rw [upd_same] at e ⊢; exact e
    · rw [upd_ne hb] at e ⊢; exact S.g _ _ e
  · have hb : b ≠ p := fun z => by subst z; rw [S.fm h] at e; cases e
    rw [upd_ne hb]; exact S.m _ _ e
  · have hb : b ≠ p := fun z => by subst z; rw [upd_same] at e1; cases e1
    rw [upd_ne hb] at e1 ⊢; exact S.no _ e1 e2
  · by_cases hb : b = p
    · subst hb; exact S.fm h
    · rw [upd_ne hb] at e; exact S.dj _ _ e
theorem Hs.newM (S : Hs G M H) (h : H p = none) : Hs G (upd M p o) (upd H p o) := by
  refine ⟨fun b u e => ?_, fun b u e => ?_, fun b e1 e2 => ?_, fun b u e => ?_⟩
  · have hb : b ≠ p := fun z => by subst z; rw [S.fg h] at e; cases e
    rw [upd_ne hb]; exact S.g _ _ e
  · by_cases hb : b = p
    · subst hb; rw [upd_same] at e ⊢; exact e
    · rw [upd_ne hb] at e ⊢; exact S.m _ _ e
  · have hb : b ≠ p := fun z => by subst z; rw [upd_same] at e2; cases e2
    rw [upd_ne hb] at e2 ⊢; exact S.no _ e1 e2
  · have hb : b ≠ p := fun z => by subst z; rw [S.fg h] at e; cases e
    rw [upd_ne hb]; exact S.dj _ _ e
theorem Hs.mut (S : Hs G M H) (h : M a = some o) : Hs G (upd M a o2) (upd H a o2) := by
  refine ⟨fun b u e => ?_, fun b u e => ?_, fun b e1 e2 => ?_, fun b u e => ?_⟩
  · have hb : b ≠ a := fun z => by subst z; rw [S.mg h] at e; cases e
    rw [upd_ne hb]; exact S.g _ _ e
  · by_cases hb : b = a
    · subst hb; rw [upd_same] at e ⊢; exact e
    · rw [upd_ne hb] at e ⊢; exact S.m _ _ e
  · have hb : b ≠ a := fun z => by subst z; rw [upd_same] at e2; cases e2
    rw [upd_ne hb] at e2 ⊢; exact S.no _ e1 e2
  · have hb : b ≠ a := fun z => by subst z; rw [S.mg h] at e; cases e
    rw [upd_ne hb]; exact S.dj _ _ e
/-- what may change is from now on left as it is -/
theorem Hs.frz (S : Hs G M H) (h : M a = some o) : Hs (upd G a o) (del M a) H := by
  refine ⟨fun b u e => ?_, fun b u e => ?_, fun b e1 e2 => ?_, fun b u e => ?_⟩
  · by_cases hb : b = a
    · subst hb; rw [upd_same] at e; cases e; exact S.m _ _ h
    · rw [upd_ne hb] at e; exact S.g _ _ e
  · by_cases hb : b = a
    · subst hb; rw [del_same] at e; cases e
    · rw [del_ne hb] at e; exact S.m _ _ e
  · have hb : b ≠ a := fun z => by subst z; rw [upd_same] at e1; cases e1
    rw [upd_ne hb] at e1; rw [del_ne hb] at e2; exact S.no _ e1 e2
  · by_cases hb : b = a
    · subst hb; exact del_same
    · rw [upd_ne hb] at e; rw [del_ne hb]; exact S.dj _ _ e
theorem Same.new (h : G p = none) : Same G (upd G p o) := fun b u e => by
  rw [upd_ne (ne_of_none e h)]; exact e
/-- a new thing that stays -/
theorem Hs.addG (S : Hs G M H) (h : H p = none) : ∃ G1, Same G G1 ∧ Hs G1 M (upd H p o) ∧ G1 p = some o :=
  ⟨_, Same.new (S.fg h), S.newG h, upd_same⟩
/-- a new thing that changes -/
theorem Hs.addM (S : Hs G M H) (h : H p = none) : ∃ M1, (∀ b, b ≠ p → M1 b = M b) ∧ Hs G M1 (upd H p o) ∧ M1 p = some o :=
  ⟨_, fun b hb => upd_ne hb, S.newM h, upd_same⟩
theorem Hs.chg (S : Hs G M H) (h : M a = some o) (o2 : HO) : ∃ M1, (∀ b, b ≠ a → M1 b = M b) ∧ Hs G M1 (upd H a o2) ∧ M1 a = some o2 :=
  ⟨_, fun b hb => upd_ne hb, S.mut h, upd_same⟩
/-- the new thing at p, known by M0 not to be among the caller's, stays from now on -/
theorem Hs.close (S : Hs G M H) (h : M p = some o) : ∃ G1, Same G G1 ∧ Hs G1 (del M p) H ∧ G1 p = some o :=
  ⟨_, Same.new (S.mg h), S.frz h, upd_same⟩
theorem Hs.eqM {M1 : Hp} (S : Hs G M H) (e : ∀ b, M1 b = M b) : Hs G M1 H := by
  have : M1 = M := funext e
  rw [this]; exact S
theorem Hs.all (H : Hp) : Hs H (fun _ => none) H := ⟨fun _ _ e => e, (fun _ _ e => by cases e), (fun _ e _ => e), fun _ _ _ => rfl⟩
end
end N
/-! NR: rules that the layer lacks -/
namespace N
open PySem L2 PySem.W PyProof.Rows
section
variable {X : Cx}
/-- sorted of a tuple of ints -/
def rSrtT (K : PySem.W.Frag) : List V → Hp → VK → Prop := fun vs H Q =>
  ∃ (a : Addr) (ns : List Int), vs = [V.ref a] ∧ SqT K H a (ns.map V.int) ∧
    ∀ (out : List Int) (p : Addr), out.Perm ns → out.Pairwise (· ≤ ·) → H p = none →
      Q (.ref p) (upd H p (.lst (out.map V.int)))
theorem cr_srtT : CallR X (.builtin "sorted") (rSrtT X.K) := by
  intro pins s σ H vs us Q I r h
  obtain ⟨a, ns, rfl, hs, q⟩ := h
  obtain ⟨its, rv, pt, hz⟩ := I.tuple hs
  rw [Vals.ref1 r]
  have hi := rv.ints
  obtain ⟨o, ho, hc, n, hd⟩ := pt
  have hlz : its.length ≤ sizeLine := by
    rw [← rv.length]
    exact hz
  refine Calls.call_function_entry kind_sorted plain_sorted
    entry_sorted (args_sorted1 _) ?_
  unfold Builtin.«sorted»
  refine wpAny_bind (m := checkCount "sorted" 1 1 _)
    (wpAny_pure ?_)
  refine wpAny_bind (wpAny_collect_seq a (.inr rfl) ho hc hd
    (fun h2 hk => ?_) (by simpa using hlz))
  refine wpAny_bind (wpAny_newList ?_
    (by simpa using hlz))
  have hL : (h2.push (seqObj "list" its.toArray 0)).get? h2.objs.size =
      some (seqObj "list" its.toArray 0) := Heap.get?_push_size _ rfl
  refine wpAny_bind (wpAny_holding (wpAny_call_entry slot_list_sort ⟨_, hL, rfl⟩
    entry_list_sort (SrtO.list_sort_ord SrtO.swo_int hL hlz
      (fun h2 => SrtO.ints_sortable hi h2) fun out h1 h3 => ⟨_, rfl, ?_⟩)
    (args_list_sort _)))
  obtain ⟨k1, k2, k3⟩ := SrtO.ints_out hi h1 h3
  obtain ⟨ep, he⟩ := sortedHeap_at (vs := its) (out := out.toArray) hL
  have I2 : L2.Inv X pins σ H { s with heap := h2 } := I.kept (t' := s.toks) hk
  have hn : H h2.objs.size = none := I2.hok.fresh (Nat.le_refl _)
  have hlen : ((out.map SrtO.iv).map V.int).length ≤ sizeLine := by
    have e := k2.length_eq
    rw [List.length_map] at hz e ⊢
    rw [List.length_map, e]
    exact hz
  refine wpAny_pure ⟨_, rfl, .ref h2.objs.size, upd H h2.objs.size (.lst ((out.map SrtO.iv).map V.int)),
    I2.laid (t' := s.toks) (fun b u e => ?_) (Nat.le_refl _) ⟨hlen, out, ep, vals_of_ints k1, he⟩, rfl, q _ _ k2 k3 hn⟩
  have hlt := Heap.lt_size (show h2.get? b = some u from e)
  refine (sortedHeap_old (Nat.ne_of_lt hlt) ?_).trans (Heap.get?_push_of_some _ e)
  rw [Heap.size_push]
  exact Nat.lt_succ_of_lt hlt
/-- sorted of a list of data that are alike: its items in some order -/
def rSrtD (K : PySem.W.Frag) : List V → Hp → VK → Prop := fun vs H Q =>
  ∃ (a : Addr) (xs : List V) (ds : List PyData), vs = [V.ref a] ∧ SqL K H a xs ∧ DpAll K H xs ds ∧
    AllAlike ds ∧ Sortable ds ∧ (∀ d ∈ ds, d.depth ≤ 8) ∧
    ∀ (out : List V) (p : Addr), out.Perm xs → H p = none → Q (.ref p) (upd H p (.lst out))
theorem dpAll_each {K : PySem.W.Frag} {H : Hp} {pins : List (Addr × Obj)} {σ : L2.St} {s : Shared} (I : L2.Inv X pins σ H s) :
    ∀ {xs : List V} {ds : List PyData} {us : List Value}, DpAll X.K H xs ds → Vals xs us →
      EachIs (fun (v : Value) (b : V × PyData) => RelV b.1 v) us (xs.zip ds) ∧
      EachIs (fun (v : Value) (b : V × PyData) => ∃ as, Reads s.heap v b.2 as) us (xs.zip ds) ∧ xs.length = ds.length
  | _, _, _, .nil, .nil => ⟨.nil, .nil, rfl⟩
  | _, _, _, .cons h1 h2, .cons r1 r2 =>
    have ih := dpAll_each (K := K) I h2 r2
    ⟨.cons r1 ih.1, .cons (Dp.reads I _ _ _ h1 r1) ih.2.1, by simp [ih.2.2]⟩
theorem each_vals : ∀ {us : List Value} {bs : List (V × PyData)},
    EachIs (fun (v : Value) (b : V × PyData) => RelV b.1 v) us bs → Vals (bs.map (·.1)) us
  | _, _, .nil => .nil
  | _, _, .cons h t => .cons h (each_vals t)
theorem cr_srtD (hu : X.A.units + 64 < cLine) : CallR X (.builtin "sorted") (rSrtD X.K) := by
  intro pins s σ H vs us Q I r h
  obtain ⟨a, xs, ds, rfl, hs, hD, hal, hso, hdp, q⟩ := h
  obtain ⟨its, rv, hl, hz⟩ := I.list hs
  rw [Vals.ref1 r]
  obtain ⟨e1, e2, e3⟩ := dpAll_each (K := X.K) I hD rv
  have hm2 : (xs.zip ds).map (·.2) = ds := by
    rw [List.map_snd_zip]
    omega
  have hm1 : (xs.zip ds).map (·.1) = xs := by
    rw [List.map_fst_zip]
    omega
  refine sorted_data (enc := fun b : V × PyData => b.2) hl.isList e1 e2 (by rw [hm2]; exact hal) (by rw [hm2]; exact hso)
    (by rw [List.length_zip]; omega) (fun b hb => ?_) fun out _ ho => ?_
  · have hb2 : b.2 ∈ ds := by
      rw [← hm2]
      exact List.mem_map.mpr ⟨b, hb, rfl⟩
    have := hdp _ hb2
    omega
  · have rv2 := each_vals ho
    have pm : (((xs.zip ds).mergeSort (dataLe false fun b : V × PyData => b.2)).map (·.1)).Perm xs := by
      have p1 := (List.mergeSort_perm (xs.zip ds) (dataLe false fun b : V × PyData => b.2)).map (·.1)
      rw [hm1] at p1
      exact p1
    obtain ⟨ep, he⟩ := sortedAll_at s.heap its out.toArray
    exact ⟨.ref _, upd H (s.heap.objs.size + 1) (.lst (((xs.zip ds).mergeSort (dataLe false fun b : V × PyData => b.2)).map (·.1))),
      I.laid (t' := s.toks) (fun _ _ => sortedAll_old) (Nat.le_succ _) ⟨by rw [pm.length_eq]; exact hz, out, ep, rv2, he⟩,
      rfl, q _ _ pm (I.hok.fresh (Nat.le_succ _))⟩
end
/-- an empty set as it is made -/
abbrev eSet (w : World) : Obj :=
  { cls := .type "set", dict := none, data := .set #[] 0
      (.fresh 0 0 (!w.params.followText "set-order")) }
section
variable {P : Program} {w : World} {A : Around}
variable {E : Value → Shared → Prop} {s : Shared}
set_option maxRecDepth 100000 in
set_option maxHeartbeats 6400000 in
/-- set of a list of ints -/
theorem set_of_ints {lp : Addr} {its : Array Value} (ns : List Int)
    {Q : Value → Shared → Prop} (hh : A.handled = none)
    (hl : s.heap.IsList lp its) (hit : IntsAre its.toList ns)
    (hb : ns.length + 1 < scanBound)
    (h : ∀ (h2 : Heap) (tk c : Nat),
      SetR w h2 s.heap.objs.size (fun j => decide (j ∈ ns)) c → c ≤ ns.length →
      (∀ b o, s.heap.get? b = some o → h2.get? b = some o) →
      Q (.ref s.heap.objs.size) { s with heap := h2, toks := tk }) :
    wpAny (model P w) A (call (.type "set") [.ref lp]) Q E s := by
  have hn : its.size = ns.length := by
    have q := IntsAre.length hit
    rw [Array.length_toList] at q
    exact q
  obtain ⟨c, tl, hmro⟩ := PySem.F.called_set.mro
  have hmade := PySem.F.called_set.made
  have hsub := PySem.F.called_set.sub
  refine wpAny_call (codeAny_of_tree ?_)
  show wpAny _ _ (callAny (.type "set") _)
    _ _ _
  refine wpAny_pure ⟨Code.quiet_builtin _ (by decide +kernel),
    codeAny_builtin PySem.F.entry_type_call ?_⟩
  rw [Around.under_plain
    (weight_type_call_type "set" [.ref lp] []) rfl]
  have h1 := PySem.F.called_set.notType
  have h2 := PySem.F.called_set.canCreate
  have hct := PySem.F.typeCall_set_1 (.ref lp)
  repeat (any_goals
    (first | assumption | wp_step))
  refine codeAny_mono (code_set_led1 (.ref lp) (E := E)
    (Q₁ := fun obj s1 => obj = .ref s.heap.objs.size ∧
      s1 = { s with heap := s.heap.push (eSet w) })
    ⟨rfl, rfl⟩) fun r s1 hr => ?_
  cases r with
  | error e => exact hr
  | ok fl =>
    cases fl with
    | ret obj =>
      obtain ⟨rfl, rfl⟩ := hr
      have hS : (s.heap.push (eSet w)).get? s.heap.objs.size = some (eSet w) := Heap.get?_push_size _ rfl
      have hT : Shared.TypeIs { s with heap := s.heap.push (eSet w) } (.ref s.heap.objs.size) "set" := ⟨_, hS, rfl⟩
      have hli := PySem.F.called_set.init.lookup
      have hbi := PySem.F.called_set.init.bind
        (.ref s.heap.objs.size)
      repeat (any_goals
        (first | assumption | wp_step))
      refine codeAny_mono (codeAny_call_builtin (R := wants (fun r s2 => r = .none ∧ ∃ h' tk c,
            s2 = { s with heap := h', toks := tk } ∧
            SetR w h' s.heap.objs.size (fun j => decide (j ∈ ns)) c ∧ c ≤ ns.length ∧
          (∀ b o, s.heap.get? b = some o → h'.get? b = some o)) E)
        PySem.F.called_set.init.plain PySem.F.entry_set_init
        (check_set_init_1 hT ?_)) fun r2 s2 hr2 => ?_
      · obtain ⟨ol, hol, hcl, nl, hdl⟩ := hl
        obtain ⟨ocl, odi, oda, osl⟩ := ol
        simp only at hcl hdl
        subst hcl; subst hdl
        have hol2 : (s.heap.push (eSet w)).get? lp = some { cls := .type "list", dict := odi, data := .seq its nl, slots := osl } :=
          Heap.get?_push_of_some _ hol
        have hsls := PySem.F.sub_list_set
        have hslf := PySem.F.sub_list_frozenset
        have hne : (Value.type "list" == Value.type "dict")
          = false := by decide
        have hl1 : (s.heap.push (eSet w)).IsList lp its :=
          ⟨_, hol2, rfl, nl, rfl⟩
        unfold Builtin.«set.__init__» noKeywords
          Builtin.Frozenset.updateFrom
        generalize hPI : pyIter = PI
        wp_walk
        subst hPI
        refine wpAny_pyIter_list hl1 ?_
        refine wpAny_bind (wpAny_runValue ?_)
        have hlS : lp < s.heap.objs.size := Heap.lt_size hol
        have hh3 : A.in1.in1.in1.handled = none := by
          simp [hh]
        have hnI : lp ≠ (s.heap.push (eSet w)).objs.size := by
          rw [Heap.size_push]
          exact Nat.ne_of_lt
            (Nat.lt_succ_of_lt hlS)
        have hSf : s.heap.objs.size ∉ [(s.heap.push (eSet w)).objs.size, lp] := by
          rw [Heap.size_push]
          simp only [List.mem_cons, List.not_mem_nil, or_false, not_or]
          exact ⟨Nat.ne_of_lt (Nat.lt_succ_self _),
            Nat.ne_of_gt hlS⟩
        have hval : ∀ (i : Nat) (v : Value), its[i]? = some v →
            ∃ k t, ns[i]? = some k ∧ v = .int k t := fun i v hv => by
          have hi : i < ns.length := by
            rw [← hn]
            exact (Array.getElem?_eq_some_iff.mp hv).1
          obtain ⟨t, e⟩ := IntsAre.int_at hit i v
            (by rw [Array.getElem?_toList]; exact hv)
          refine ⟨ns[i], t, List.getElem?_eq_getElem hi, ?_⟩
          rw [e, List.getD_eq_getElem?_getD,
            List.getElem?_eq_getElem hi]
          rfl
        refine set_update_ints ((Walks.list hh3 _ lp hnI its).toS) s.heap.objs.size
          hSf ns hn hb hval (its.size - 0) 0 _ (by omega)
          (Nat.zero_le _)
          ⟨⟨_, Heap.get?_push_size _ rfl, rfl, rfl⟩,
            (hl1.push _)⟩ ?hS0 ?hR
        case hS0 =>
          exact ⟨0, Nat.le_refl 0,
            setR_new_at (Heap.get?_push_of_some _ hS)⟩
        case hR =>
          intro s3 c3 hm hc3 hS3
          obtain ⟨h3, g3, d3, tk3, os3⟩ := s3
          have eg : g3 = s.gens := hm.gens
          have ed : d3 = s.drawn := hm.drawn
          have eo : os3 = s.os := hm.os
          subst eg; subst ed; subst eo
          show wpAny _ _ _ _ _ _
          refine wpAny_pure ?_
          show wpAny _ _ (ret Value.none)
            _ _ _
          rw [hn] at hc3
          refine wpAny_pure ⟨rfl, h3, tk3, c3, rfl, hS3, hc3,
            fun b o e => ?_⟩
          have b0 : b < s.heap.objs.size := Heap.lt_size e
          have b2 : b ≠ (s.heap.push (eSet w)).objs.size := by
            rw [Heap.size_push]
            exact Nat.ne_of_lt (Nat.lt_succ_of_lt b0)
          refine hm.heap b o ?_ (Heap.get?_push_of_some _
            (Heap.get?_push_of_some _ e))
          simp only [List.mem_cons, List.not_mem_nil, or_false, not_or]
          exact ⟨Nat.ne_of_lt b0, b2⟩
      · cases r2 with
        | error e => exact hr2
        | ok fl2 =>
          cases fl2 with
          | ret r =>
            obtain ⟨rfl, h3, tk, c3, rfl, hS3, hc3, hk3⟩ := hr2
            repeat (any_goals
              (first | assumption | wp_step))
            exact h _ _ _ hS3 hc3 hk3
          | _ => exact hr2.elim
    | _ => exact hr.elim
end
section
variable {X : Cx}
/-- set of a list of ints: its members, at most as many as there are items -/
def rSetZ (K : PySem.W.Frag) (w : World) : List V → Hp → VK → Prop := fun vs H Q =>
  ∃ (a : Addr) (ns : List Int), vs = [V.ref a] ∧ SqL K H a (ns.map V.int) ∧ ns.length ≤ 1000 ∧
    ∀ (p : Addr) (c : Nat), c ≤ ns.length → H p = none → Q (.ref p) (upd H p (SetO w p (fun j => decide (j ∈ ns)) c))
theorem cr_setL (hc : X.calm = true) : CallR X (.type "set") (rSetZ X.K X.w) := by
  intro pins s σ H vs us Q I r h
  obtain ⟨a, ns, rfl, hs, hlen, q⟩ := h
  obtain ⟨its, rv, hl, hz⟩ := I.list hs
  rw [Vals.ref1 r]
  refine set_of_ints ns (I.ok.hd hc) hl.isList (by simpa using rv.ints)
    (by unfold scanBound; omega) fun h2 tk c R hcn hk => ?_
  have hf : H s.heap.objs.size = none := I.hok.fresh (Nat.le_refl _)
  exact ⟨.ref _, upd H s.heap.objs.size (SetO X.w s.heap.objs.size (fun j => decide (j ∈ ns)) c),
    I.laid (t' := tk) hk (Nat.le_refl _) (setO_new R), rfl, q _ c hcn hf⟩
end
end N
/-! N1: calls of defs by name; relations of values and data; loops and comprehensions in two-part heaps -/
namespace N
open PySem L2
section
variable {X : Cx} {pos : Pos}
/-- a op1 b op2 c op3 d, as a test -/
def tChain3 (r1 r2 r3 : R2) (ta tb tc td : TE) : TT := fun σ H Q =>
  ta σ H fun x H1 => tb σ H1 fun y H2 => r1 x y H2 fun z H3 => ∃ k, z = .bl k ∧
    (if k = true then tc σ H3 fun u H4 => r2 y u H4 fun z2 H5 => ∃ k2, z2 = .bl k2 ∧
      (if k2 = true then td σ H5 fun v H6 => r3 u v H6 fun z3 H7 => ∃ k3, z3 = .bl k3 ∧ Q k3 H7 else Q false H5)
      else Q false H3)
theorem pt_chain3 {op1 op2 op3 : CmpOp} {r1 r2 r3 : R2} {a b c d : Expr} {ta tb tc td : TE} (o1 : OpR X (compareOp op1) r1) (o2 : OpR X (compareOp op2) r2)
    (o3 : OpR X (compareOp op3) r3) (ha : PE X a ta) (hb : PE X b tb) (hc : PE X c tc) (hd : PE X d td)
    (hm : PySem.lastMarks [op1, op2, op3] [b, c, d] = false := by with_unfolding_all rfl) :
    PT X (.Compare a [op1, op2, op3] [b, c, d] pos) (tChain3 r1 r2 r3 ta tb tc td) := by
  refine ⟨fun pins s σ H Q I h => ?_⟩
  refine PyProof.Rows.isTrue_chain (thn (ha.run pins s σ H _ I h) fun v s1 ⟨x, H1, I1, e1, q1⟩ => ?_) hm
  refine PyProof.Rows.test_link (thn (hb.run pins s1 σ H1 _ I1 q1) fun u s2 ⟨y, H2, I2, e2, q2⟩ => ?_)
  refine thn (o1 pins s2 σ H2 x y v u _ I2 e1 e2 q2) fun w3 s3 ⟨z, H3, I3, e3, k, ek, q3⟩ => ?_
  subst ek
  cases e3
  refine PySem.wpAny_truthy_bool ?_
  cases k with
  | false => exact PyProof.Rows.ite_ff ⟨H3, I3, q3⟩
  | true =>
    refine PyProof.Rows.ite_tt (PyProof.Rows.test_link (thn (hc.run pins s3 σ H3 _ I3 q3) fun u4 s4 ⟨y4, H4, I4, e4, q4⟩ => ?_))
    refine thn (o2 pins s4 σ H4 y y4 u u4 _ I4 e2 e4 q4) fun w5 s5 ⟨z5, H5, I5, e5, k5, ek5, q5⟩ => ?_
    subst ek5
    cases e5
    refine PySem.wpAny_truthy_bool ?_
    cases k5 with
    | false => exact PyProof.Rows.ite_ff ⟨H5, I5, q5⟩
    | true =>
      refine PyProof.Rows.ite_tt (PyProof.Rows.test_last (thn (hd.run pins s5 σ H5 _ I5 q5) fun u6 s6 ⟨y6, H6, I6, e6, q6⟩ => ?_))
      refine thn (o3 pins s6 σ H6 y4 y6 u4 u6 _ I6 e4 e6 q6) fun w7 s7 ⟨z7, H7, I7, e7, k7, ek7, q7⟩ => ?_
      subst ek7
      cases e7
      exact PySem.wpAny_truthy_bool ⟨H7, I7, q7⟩
end

/-! ### defs by name -/
def Has (P : Program) (w : World) (K : PySem.W.Frag) (mg : Str → Option Value) (base : Heap) (k : Nat) (x : Str) (ps : List Str) (sp : Sp) : Prop :=
  ∃ f fd, FnOk P w K mg base CX0 k f fd ps sp ∧ mg x = some (.ref f) ∧ PySem.W.keepIn K (.ref f) = true ∧ Binds K fd ps []
def Dfn (K : PySem.W.Frag) (mg : Str → Option Value) (x : Str) (st : Stmt) : Prop :=
  ∃ f fd, FunD K x x (defArgs st) (defBody st) (defScope st) [] [] f fd ∧ mg x = some (.ref f)
section
variable {P : Program} {w : World} {K : PySem.W.Frag} {mg : Str → Option Value} {base : Heap}
theorem Dfn.ok {x : Str} {st : Stmt} {N ps : List Str} {k : Nat} {sp : Sp} (F : Dfn K mg x st) (S : FnScope N ps (defScope st))
    (hb : ∀ (kV doc pm : Value) (an : Option Addr) (cdv ct : Value) (us : List Value), us.length = ps.length →
      bindArgs (PySem.W.fnOf x x (defArgs st) (defBody st) (defScope st) .none kV doc pm an cdv ct) ⟨us, []⟩ = pure (ps.zip us))
    (len : ∀ vs H Q E, sp vs H Q E → vs.length = ps.length)
    (body : ∀ (f : Addr) (cdv : Value) (A : Around) (outer : List Env) (s : Shared) (H : Hp) (vs : List V) (Q : VK) (E : XK),
      Room k (A.deeper (PyProof.Rows.envOfC x (defScope st) s.heap.objs.size f cdv)) → sp vs H Q E →
      ∃ t, PSs (cxOf CX0 P w K mg base N x (defScope st) f cdv A outer s H E).nox (defBody st) t ∧ t { nx := fun _ H' => Q .non H', rt := Q } (start N vs) H) :
    Has P w K mg base (k + 1) x ps sp := by
  obtain ⟨f, fd, FD, e⟩ := F
  refine ⟨f, fd, FD.ok S len fun cdv A outer s H vs Q E hr hsp => ?_, e, FD.kp, FD.bindsN hb⟩
  obtain ⟨t, h1, h2⟩ := body f cdv A outer s H vs Q E hr hsp
  exact ⟨t, h1.nox, h2⟩
end
section
variable {X : Cx}
theorem pe_fn {k j : Nat} {x : Str} {ps : List Str} {sp : Sp} {p pos : Pos} {e : Expr} {es : List Expr} {t : TA} (F : Has X.prog X.w X.K X.mg X.base k x ps sp) (hr : Room j X.A)
    (ha : PA X (e :: es) t) (hj : k ≤ j := by decide) (hg : Gl X x := by rfl) (hdb : (x == ("__debug__" : Str)) = false := by decide)
    (he : starEach (e :: es) X.env = (false, eval e X.env) :: starEach es X.env := by rfl) (hpl : (backTo pos (starEach es X.env)).any (·.1) = false := by rfl) :
    PE X (.Call (.Name x p) (e :: es) [] pos) (tCall sp [] E0 t) := by
  obtain ⟨f, fd, G, hm, kp, b⟩ := F
  exact pe_call G (hr.mono hj) hg hm kp b .nil pass0 ha hdb he hpl
end

/-! ### what a value stands for -/
/-- a tuple of ints, a list of ints -/
def rTI (ns : List Int) (v : V) (G : Hp) : Prop := ∃ a, v = .ref a ∧ G a = some (.tup (ns.map V.int))
def rLI (ns : List Int) (v : V) (G : Hp) : Prop := ∃ a, v = .ref a ∧ G a = some (.lst (ns.map V.int))
/-- item by item -/
structure All2 {α : Type} (R : α → V → Hp → Prop) (G : Hp) (l : List α) (xs : List V) : Prop where
  len : xs.length = l.length
  get : ∀ (i : Nat) (x : α) (v : V), l[i]? = some x → xs[i]? = some v → R x v G
def rL {α : Type} (R : α → V → Hp → Prop) (l : List α) (v : V) (G : Hp) : Prop := ∃ a xs, v = .ref a ∧ G a = some (.lst xs) ∧ All2 R G l xs
def rT {α : Type} (R : α → V → Hp → Prop) (l : List α) (v : V) (G : Hp) : Prop := ∃ a xs, v = .ref a ∧ G a = some (.tup xs) ∧ All2 R G l xs
/-- a pair -/
def r2 {α β : Type} (R : α → V → Hp → Prop) (R' : β → V → Hp → Prop) (p : α × β) (v : V) (G : Hp) : Prop :=
  ∃ a x y, v = .ref a ∧ G a = some (.tup [x, y]) ∧ R p.1 x G ∧ R' p.2 y G
def rZ (i : Int) (v : V) (_ : Hp) : Prop := v = .int i
abbrev rP : Int × Int → V → Hp → Prop := r2 rZ rZ
/-- kept when more is there -/
def Up {α : Type} (R : α → V → Hp → Prop) : Prop := ∀ x v G G', Same G G' → R x v G → R x v G'
theorem up_Z : Up rZ := fun _ _ _ _ _ h => h
theorem up_TI : Up rTI := fun _ _ _ _ E ⟨a, e, h⟩ => ⟨a, e, E _ _ h⟩
theorem up_LI : Up rLI := fun _ _ _ _ E ⟨a, e, h⟩ => ⟨a, e, E _ _ h⟩
section
variable {α β : Type} {R : α → V → Hp → Prop} {R' : β → V → Hp → Prop} {G G' : Hp} {l : List α} {xs : List V}
theorem All2.up (u : Up R) (E : Same G G') (h : All2 R G l xs) : All2 R G' l xs := ⟨h.len, fun i x v h1 h2 => u _ _ _ _ E (h.get i x v h1 h2)⟩
theorem up_L (u : Up R) : Up (rL R) := fun _ _ _ _ E ⟨a, xs, e, h, h2⟩ => ⟨a, xs, e, E _ _ h, h2.up u E⟩
theorem up_T (u : Up R) : Up (rT R) := fun _ _ _ _ E ⟨a, xs, e, h, h2⟩ => ⟨a, xs, e, E _ _ h, h2.up u E⟩
theorem up_2 (u : Up R) (u' : Up R') : Up (r2 R R') := fun _ _ _ _ E ⟨a, x, y, e, h, h2, h3⟩ => ⟨a, x, y, e, E _ _ h, u _ _ _ _ E h2, u' _ _ _ _ E h3⟩
theorem All2.nil : All2 R G [] [] := ⟨rfl, fun i x v h _ => by simp at h⟩
theorem All2.cons {x : α} {v : V} (h : R x v G) (t : All2 R G l xs) : All2 R G (x :: l) (v :: xs) := by
  refine ⟨by simp [t.len], fun i y u h1 h2 => ?_⟩
  cases i with
  | zero => simp at h1 h2; subst h1; subst h2; exact h
  | succ i => exact t.get i y u (by simpa using h1) (by simpa using h2)
theorem All2.append {l2 : List α} {xs2 : List V} (h : All2 R G l xs) (h2 : All2 R G l2 xs2) : All2 R G (l ++ l2) (xs ++ xs2) := by
  refine ⟨by simp [h.len, h2.len], fun i x v e1 e2 => ?_⟩
  by_cases hi : i < l.length
  · rw [List.getElem?_append_left hi] at e1
    rw [List.getElem?_append_left (by rw [h.len]; exact hi)] at e2
    exact h.get i x v e1 e2
  · rw [List.getElem?_append_right (by omega)] at e1
    rw [List.getElem?_append_right (by rw [h.len]; omega), h.len] at e2
    exact h2.get _ x v e1 e2
theorem All2.snoc {x : α} {v : V} (h : All2 R G l xs) (hx : R x v G) : All2 R G (l ++ [x]) (xs ++ [v]) := h.append (All2.nil.cons hx)
theorem All2.at (h : All2 R G l xs) {i : Nat} {v : V} (e : xs[i]? = some v) : ∃ x, l[i]? = some x ∧ R x v G := by
  have hi : i < l.length := by
    rw [← h.len]
    exact (List.getElem?_eq_some_iff.mp e).1
  exact ⟨l[i], List.getElem?_eq_getElem hi, h.get i _ v (List.getElem?_eq_getElem hi) e⟩
theorem All2.atL (h : All2 R G l xs) {i : Nat} {x : α} (e : l[i]? = some x) : ∃ v, xs[i]? = some v ∧ R x v G := by
  have hi : i < xs.length := by
    rw [h.len]
    exact (List.getElem?_eq_some_iff.mp e).1
  exact ⟨xs[i], List.getElem?_eq_getElem hi, h.get i x _ e (List.getElem?_eq_getElem hi)⟩
theorem All2.ints {G : Hp} {ns : List Int} {xs : List V} (h : All2 rZ G ns xs) : xs = ns.map V.int := by
  apply List.ext_getElem?
  intro i
  rw [List.getElem?_map]
  cases e : ns[i]? with
  | none =>
    have := List.getElem?_eq_none_iff.mp e
    exact List.getElem?_eq_none_iff.mpr (by rw [h.len]; exact this)
  | some n =>
    obtain ⟨v, e1, e2⟩ := h.atL e
    rw [e1]
    exact congrArg some e2
theorem All2.of_ints {G : Hp} {ns : List Int} : All2 rZ G ns (ns.map V.int) :=
  ⟨by simp, fun i x v e1 e2 => by rw [List.getElem?_map, e1] at e2; exact (Option.some.inj e2).symm⟩
end
theorem rP_ti {p : Int × Int} {v : V} {G : Hp} (h : rP p v G) : rTI [p.1, p.2] v G := by
  obtain ⟨a, x, y, e, h, e1, e2⟩ := h
  cases e1; cases e2
  exact ⟨a, e, h⟩
theorem up_P : Up rP := up_2 up_Z up_Z

/-! ### contracts -/
/-- changes nothing that stood -/
def pureSp {α : Type} (pre : α → List V → Hp → Prop) (post : α → V → Hp → Prop) : Sp := fun vs H Q _ =>
  ∃ (G M : Hp) (x : α), Hs G M H ∧ pre x vs G ∧ ∀ v G' H', Same G G' → Hs G' M H' → post x v G' → Q v H'
/-- the numbers that are drawn from stand at R -/
def Rest (M : Hp) (R : Addr) : Prop := ∃ ns : List Int, M R = some (.lst (ns.map V.int))
def Off (p : Addr → Prop) (M M' : Hp) : Prop := ∀ a, ¬ p a → M' a = M a
def drawSp {α : Type} (pre : α → Addr → List V → Hp → Prop) (post : α → V → Hp → Prop) : Sp := fun vs H Q _ =>
  ∃ (G M : Hp) (R : Addr) (x : α), Hs G M H ∧ Rest M R ∧ pre x R vs G ∧
    ∀ v G' M' H', Same G G' → Off (· = R) M M' → Rest M' R → Hs G' M' H' → post x v G' → Q v H'
end N
/-! NRV: list of a reversed list -/
namespace N
open PySem L2 PySem.W PyProof.Rows
section
variable {P : Program} {w : World} {A : Around}
variable {E : Value → Shared → Prop} {s : Shared}
set_option maxRecDepth 100000 in
set_option maxHeartbeats 6400000 in
theorem init_rev {R : Result → Shared → Prop} {S it l : Addr} {items : Array Value} (hh : A.handled = none)
    (hit : s.heap.IsRevIter it l ((items.size : Int) - 1)) (hl : s.heap.IsList l items) (hne : l ≠ it)
    (hSi : S ≠ it) (hSl : S ≠ l) (hn : items.size ≤ sizeLine)
    (hS : s.heap.get? S = some { cls := .type "list", data := .seq #[] })
    (hR : ∀ (h2 : Heap) (tk : Nat) (acc : Array Value) (c : Nat), (∀ b o, b ≠ S → b ≠ it → s.heap.get? b = some o → h2.get? b = some o) →
      h2.get? S = some { cls := .type "list", dict := none, data := .seq acc c, slots := #[] } →
      ItemsOf (fun i v => items[items.size - 1 - i]? = some v) acc items.size → R (.ok (.ret .none)) { s with heap := h2, toks := tk }) :
    wpAny (model P w) A.in1 (Builtin.«list.__init__» ⟨[.ref S, .ref it], []⟩)
      (fun fin s2 => match fin with
        | .done f => R (.ok f) s2
        | .again c2 => c2.quiet = true ∧ codeAny (model P w) A c2 R s2)
      (fun e s2 => R (.error e) s2) s := by
  have W := (Walks.listRev (prog := P) (w := w) (A := A.in1) hh it l hne items).toS
  have hSf : S ∉ [it, l] := by
    simp only [List.mem_cons, List.not_mem_nil, or_false, not_or]
    exact ⟨hSi, hSl⟩
  show wpAny _ _ (do
    let old ← Builtin.List.listItems (.ref S)
    Builtin.List.listUpdate (.ref S) (fun _ => #[])
    letGo old.toList.reverse
    Builtin.List.listExtendWith (.ref S) (.ref it) .none) _ _ s
  refine wpAny_bind ?_
  unfold Builtin.List.listItems
  refine wpAny_bind (wpAny_seqItems hS rfl
    (wpAny_pure ?_))
  show wpAny _ _ (updateSeq S (fun _ => #[]) >>= fun _ =>
    letGo (#[] : Array Value).toList.reverse >>= fun _ =>
      Builtin.List.listExtendWith (.ref S) (.ref it) .none) _ _ s
  refine wpAny_bind (wpAny_updateSeq hS rfl ?_)
  have hS2 := Heap.get?_update_self (Obj.mapSeq (fun _ => (#[] : Array Value))) hS rfl
  have oth : ∀ b o, b ≠ S → s.heap.get? b = some o →
      (s.heap.update S (Obj.mapSeq (fun _ => (#[] : Array Value)))).get? b = some o :=
    fun b o hb e => (Heap.get?_update_other _ _ (Ne.symm hb)).trans e
  refine wpAny_bind (wpAny_letGo ?_)
  have hit2 : (s.heap.update S (Obj.mapSeq (fun _ => (#[] : Array Value)))).IsRevIter it l ((items.size : Int) - 1) :=
    hit.at fun o e => oth it o (Ne.symm hSi) e
  obtain ⟨ol, hol, hcl, nl, hdl⟩ := id hl
  have hl2 : (s.heap.update S (Obj.mapSeq (fun _ => (#[] : Array Value)))).IsList l items :=
    ⟨ol, oth l ol (Ne.symm hSl) hol, hcl, nl, hdl⟩
  have hT : ({ s with heap := s.heap.update S (Obj.mapSeq (fun _ => (#[] : Array Value))) } : Shared).TypeIs (.ref it) "list_reverseiterator" :=
    Heap.IsRevIter.typeIs (s := { s with heap := s.heap.update S (Obj.mapSeq (fun _ => (#[] : Array Value))) }) hit2
  have h1 : Builtin.List.listSameRef (.ref S) (.ref it) = false := by
    simp [Builtin.List.listSameRef, hSi]
  unfold Builtin.List.listExtendWith
  refine wpAny_bind (wpAny_typeOf hT ?_)
  rw [if_neg (by rw [h1]; decide)]
  refine wpAny_bind (wpAny_pyIter_revIter (s := { s with heap := s.heap.update S (Obj.mapSeq (fun _ => (#[] : Array Value))) }) hit2 ?_)
  refine wpAny_bind (wpAny_holding ?_)
  unfold Builtin.List.listLengthHint
  refine wpAny_bind (wpAny_specialOf hT RT.nolen_lri ?_)
  show wpAny _ _ (specialOf (Value.ref it)
    (Str.ofString "__length_hint__") >>= _) _ _ _
  refine wpAny_bind (wpAny_specialOf hT RT.hint_lri ?_)
  generalize hid : ("list_reverseiterator.__length_hint__" : String) = idr
  wp_delta
  rw [show splitId idr = some ("list_reverseiterator", "__length_hint__")
    from by subst hid; decide +kernel]
  subst hid
  refine wpAny_bind (wpAny_isInstance (b := true) hT
    (by rw [isSubtype_type]; kernel_rfl) ?_)
  refine wpAny_pure ?_
  rw [if_neg (by decide)]
  have e0 : ((items.size : Nat) : Int) - 1 - ((0 : Nat) : Int) =
      (items.size : Int) - 1 := by omega
  refine wpAny_pure ⟨plainId_quiet PySem.F.plain_extend_loop _,
    codeAny_extend_loopS W hn S hSf _ items.size 0 _ _ _ rfl
      (Nat.zero_le _) ⟨Nat.zero_le _, by rw [e0]; exact hit2, hl2⟩ hS2
      (ItemsOf.nil _) fun s3 acc c hm hS3 hacc => ?_⟩
  rw [Moved.eq_with hm]
  refine hR s3.heap s3.toks acc c (fun b o hb hb2 e => hm.heap b o (fun hmem => ?_) (oth b o hb e)) hS3 hacc
  rcases List.mem_cons.mp hmem with e2 | hmem
  · exact hb e2
  · exact hb2 (List.mem_singleton.mp hmem)
theorem call_list_rev {it l : Addr} {items : Array Value} {Q : Value → Shared → Prop} (hh : A.handled = none)
    (hit : s.heap.IsRevIter it l ((items.size : Int) - 1)) (hl : s.heap.IsList l items) (hne : l ≠ it) (hn : items.size ≤ sizeLine)
    (hQ : ∀ (h2 : Heap) (tk : Nat) (acc : Array Value) (c : Nat), (∀ b o, b ≠ it → s.heap.get? b = some o → h2.get? b = some o) →
      h2.get? s.heap.objs.size = some { cls := .type "list", dict := none, data := .seq acc c, slots := #[] } →
      ItemsOf (fun i v => items[items.size - 1 - i]? = some v) acc items.size → Q (.ref s.heap.objs.size) { s with heap := h2, toks := tk }) :
    wpAny (model P w) A (call (.type "list") [.ref it]) Q E s := by
  refine callType_codes (Q₁ := fun obj s1 => obj = .ref s.heap.objs.size ∧
      s1 = { s with heap := s.heap.push { cls := .type "list", data := .seq #[] } })
    PySem.F.called_list (PySem.F.typeCall_list_1 _) PySem.F.entry_list_init
    (code_list_new _ ⟨rfl, rfl⟩) fun obj s1 h1 => ?_
  obtain ⟨rfl, rfl⟩ := h1
  have hS : (s.heap.push { cls := .type "list", data := .seq #[] }).get? s.heap.objs.size =
      some { cls := .type "list", data := .seq #[] } := Heap.get?_push_size _ rfl
  obtain ⟨oi, hoi, _⟩ := id hit
  obtain ⟨ol, hol, _⟩ := id hl
  have hSi : s.heap.objs.size ≠ it := Nat.ne_of_gt (Heap.lt_size hoi)
  have hSl : s.heap.objs.size ≠ l := Nat.ne_of_gt (Heap.lt_size hol)
  refine ⟨⟨_, hS, rfl⟩, PySem.F.args_list_init_2 _ _, init_rev (A := A.in1) hh
    (hit.at fun o e => Heap.get?_push_of_some _ e) (hl.push _) hne hSi hSl hn hS fun h2 tk acc c hk hS2 hacc => ?_⟩
  refine ⟨rfl, hQ h2 tk acc c (fun b o hb e => hk b o ?_ hb (Heap.get?_push_of_some _ e)) hS2 hacc⟩
  exact Nat.ne_of_lt (Heap.lt_size e)
end
section
variable {X : Cx} {e : Expr} {t : TA} {p p2 pos pos2 : Pos}
/-- list(reversed(xs)), xs a list -/
def tLRev (K : PySem.W.Frag) (t : TA) : TE := fun σ H Q => t σ H fun vs H1 => ∃ (a : Addr) (xs : List V), vs = [V.ref a] ∧ SqL K H1 a xs ∧
  ∀ q, H1 q = none → Q (.ref q) (upd H1 q (.lst xs.reverse))
theorem pe_listRev (hc : X.calm = true) (hg : Gl X "list") (hm : X.mg "list" = none) (hg2 : Gl X "reversed") (hm2 : X.mg "reversed" = none) (ha : PA X [e] t)
    (na : starEach [Expr.Call (.Name "reversed" p) [e] [] pos] X.env = (false, eval (Expr.Call (.Name "reversed" p) [e] [] pos) X.env) :: starEach [] X.env := by rfl)
    (hs : starEach [e] X.env = [(false, eval e X.env)] := by rfl) :
    PE X (.Call (.Name "list" p2) [Expr.Call (.Name "reversed" p) [e] [] pos] [] pos2) (tLRev X.K t) := by
  refine ⟨fun pins s σ H Q I h => ?_⟩
  refine wpAny_Call_Name_kw (ld_blt I hg hm boot_list ?_ (by decide) (by decide))
  refine PyProof.Rows.callWith_type1 ?_ na rfl
  rw [na]
  refine Calls.spliced_cons ?_
  refine Call_ (ld_blt I hg2 hm2 boot_reversed (PyProof.Rows.callWith_type1 (thn (ha.run pos pins s σ H _ I h) fun us s1 ⟨vs, H1, I1, r1, q1⟩ => ?_) hs rfl))
  obtain ⟨a, xs, e1, hq, q⟩ := q1
  subst e1
  rw [Vals.ref1 r1]
  obtain ⟨its, rv, hl, hz⟩ := I1.list hq
  refine call_reversed_list hl.isList ?_
  refine Calls.spliced_nil ?_
  have hsz : its.toArray.size = xs.length := by
    rw [rv.length]
    simp
  have hit : (s1.heap.push (revObj a ((its.toArray.size : Int) - 1))).IsRevIter s1.heap.objs.size a ((its.toArray.size : Int) - 1) :=
    ⟨_, Heap.get?_push_size _ rfl, rfl, rfl⟩
  have hlt : a < s1.heap.objs.size := by
    obtain ⟨o, _, ho, _⟩ := hl
    exact Heap.lt_size ho
  refine call_list_rev (s := { s1 with heap := s1.heap.push (revObj a ((its.toArray.size : Int) - 1)) }) (I1.ok.hd hc) hit (hl.isList.push _) (Nat.ne_of_lt hlt)
    (by rw [hsz]; exact hz) fun h2 tk acc c hk hS hacc => ?_
  have keep : ∀ b o, s1.heap.get? b = some o → h2.get? b = some o := fun b o eb =>
    hk b o (Nat.ne_of_lt (Heap.lt_size eb)) (Heap.get?_push_of_some _ eb)
  have eacc : acc.toList = its.reverse := by
    apply List.ext_getElem?
    intro i
    rw [Array.getElem?_toList]
    by_cases hi : i < acc.size
    · have e1 := hacc.2 i acc[i] (by simp [hi])
      have hl1 : i < its.length := by
        have := hacc.1
        simp at this
        omega
      rw [List.getElem?_reverse hl1]
      simp at e1
      rw [e1]
      simp [hi]
    · have : its.length ≤ i := by
        have := hacc.1
        simp at this
        omega
      rw [Array.getElem?_eq_none (by omega), List.getElem?_eq_none (by simpa using this)]
  have hle : s1.heap.objs.size ≤ (s1.heap.push (revObj a ((its.toArray.size : Int) - 1))).objs.size := by
    rw [Heap.size_push]
    exact Nat.le_succ _
  refine ⟨.ref _, upd H1 _ (.lst xs.reverse), I1.laid (t' := tk) keep hle ⟨by rw [List.length_reverse]; exact hz, acc.toList, c, by rw [eacc]; exact rv.reverse, ?_⟩, rfl, q _ (I1.hok.fresh hle)⟩
  rw [Array.toArray_toList]
  exact hS
end
end N
/-! NK: the layer's rules with their written part named -/
namespace N
open PySem L2
section
variable {X : Cx} (K : PySem.W.Frag) (h : X.K = K := by rfl)
include h
theorem ixL : IxR X (rIxL K) := h ▸ ix_list
theorem ixT : IxR X (rIxT K) := h ▸ ix_tup
theorem catA : OpR X (binaryOp .Add) (rCatA K) := h ▸ op_catA
def rLn (K : PySem.W.Frag) : List V → Hp → VK → Prop := fun xs H Q => ∃ p ys, xs = [.ref p] ∧ (SqL K H p ys ∨ SqT K H p ys) ∧ Q (.int ys.length) H
theorem lenS : CallR X (.builtin "len") (rLn K) := by
  subst h
  exact call_len_seq
theorem sumK (hc : X.calm = true) : CallR X (.builtin "sum") (rSum K) := h ▸ cr_sum hc
theorem maxK (hc : X.calm = true) : CallR X (.builtin "max") (rMax K) := h ▸ cr_max hc
theorem allK (hc : X.calm = true) : CallR X (.builtin "all") (rAll K) := h ▸ cr_all hc
theorem inK : OpR X (compareOp .In) (rIn K false) := h ▸ op_in_seq
theorem notInK : OpR X (compareOp .NotIn) (rIn K true) := h ▸ op_notIn_seq
theorem ltTK (hu : X.A.units < cLine) : OpR X (compareOp .Lt) (rLtT K) := h ▸ op_ltT hu
theorem eqDK (hu : X.A.units + 64 < cLine) : OpR X (compareOp .Eq) (rEqD K) := h ▸ op_eqD hu
theorem notInDK (hu : X.A.units + 65 < cLine) : OpR X (compareOp .NotIn) (rNotInD K) := h ▸ op_notInD hu
theorem slL : SlR X (rSlL K) := h ▸ sl_list
theorem slA : SlR X (rSlA K) := h ▸ sl_tupA
def rLsO (K : PySem.W.Frag) : List V → Hp → VK → Prop := fun xs H Q => ∃ p ys, xs = [.ref p] ∧ (SqL K H p ys ∨ SqT K H p ys) ∧ ∀ l, H l = none → Q (.ref l) (upd H l (.lst ys))
theorem lstO : CallR X (.type "list") (rLsO K) := by
  subst h
  exact call_list_of
def rTpO (K : PySem.W.Frag) : List V → Hp → VK → Prop := fun xs H Q => ∃ p ys, xs = [.ref p] ∧ ((SqL K H p ys ∧ ∀ l, H l = none → Q (.ref l) (upd H l (.tup ys))) ∨ (SqT K H p ys ∧ Q (.ref p) H))
theorem tupO : CallR X (.type "tuple") (rTpO K) := by
  subst h
  exact call_tuple_of
theorem srtT : CallR X (.builtin "sorted") (rSrtT K) := h ▸ cr_srtT
theorem srtI : CallR X (.builtin "sorted") (rSortedI K) := h ▸ cr_sortedI
theorem srtD (hu : X.A.units + 64 < cLine) : CallR X (.builtin "sorted") (rSrtD K) := h ▸ cr_srtD hu
theorem setL (w : World) (hc : X.calm = true) (hw : X.w = w := by rfl) : CallR X (.type "set") (rSetZ K w) := by
  subst h
  subst hw
  exact cr_setL hc
theorem cntK : MtR X "list.count" (rCntI K) := h ▸ mt_lcount
end
theorem srtS {X : Cx} (w : World) (hc : X.calm = true) (hw : X.w = w := by rfl) : CallR X (.builtin "sorted") (rSortedSet w) := hw ▸ cr_sortedSet hc
theorem piL {X : Cx} {tg l : Expr} {tl : TE} (K : PySem.W.Frag) (hl : PE X l tl) (h : X.K = K := by rfl) : PI X tg l (iList K tl) := h ▸ pi_list hl
theorem piT {X : Cx} {tg l : Expr} {tl : TE} (K : PySem.W.Frag) (hl : PE X l tl) (h : X.K = K := by rfl) : PI X tg l (iTup K tl) := h ▸ pi_tup hl
theorem hu65 {k : Nat} {A : Around} (r : Room k A) : A.units + 65 < cLine := by
  have := r.un
  omega
theorem is_bl {X : Cx} : OpR X (compareOp .Is) (fun x y H Q => ∃ a b, x = .bl a ∧ y = .bl b ∧ Q (.bl (decide (a = b))) H) := op_is_bl
theorem pgT {X : Cx} {es : List Expr} {k : Nat} {t : TGs} {pos : Pos} (K : PySem.W.Frag) (n : Nat) (hc : X.calm = true) (h : PGs X es t) (hK : X.K = K := by rfl)
    (hn : (assignEach es X.env).length = n := by rfl) (hst : (assignEach es X.env).findIdx? (·.1) = none := by rfl) : PG X (.Tuple es k pos) (gTup K n t) := by
  subst hK
  subst hn
  exact pg_tup hc h rfl hst
end N
/-! NS: the text by places, its scopes -/
namespace N
open PySem L2
def topS (i : Nat) : Stmt := PySem.Challenge.pw_neededrows_k69_whole_no_untrue_number.main.body.getD i (.Pass ⟨0, 0, 0, 0⟩)
abbrev s_is_sorted : Stmt := topS 2
abbrev s_plain_rows : Stmt := topS 3
abbrev s_noughts : Stmt := topS 4
abbrev s_is_plain : Stmt := topS 6
abbrev s_is_state : Stmt := topS 7
abbrev s_is_renaming : Stmt := topS 8
abbrev s_renamed_row : Stmt := topS 9
abbrev s_passed : Stmt := topS 10
abbrev s_results : Stmt := topS 11
abbrev s_is_covered : Stmt := topS 12
abbrev s_is_unsettled : Stmt := topS 13
abbrev s_standard_comparers : Stmt := topS 15
abbrev s_is_apart : Stmt := topS 16
abbrev s_standard_layers : Stmt := topS 17
abbrev s_has_states : Stmt := topS 18
abbrev s_begins_whole : Stmt := topS 19
abbrev s_leads_on : Stmt := topS 20
abbrev s_ends_unsettled : Stmt := topS 21
abbrev s_shows_need : Stmt := topS 22
abbrev s_layers : Stmt := topS 28
abbrev s_depth : Stmt := topS 29
abbrev s_is_standard_sorter : Stmt := topS 31
abbrev s_takes_fewest : Stmt := topS 32
abbrev s_takes_layers : Stmt := topS 33
abbrev s_l_numbers : Stmt := topS 35
abbrev s_l_draw : Stmt := topS 36
abbrev s_l_rows : Stmt := topS 37
abbrev s_l_code : Stmt := topS 38
abbrev s_l_passed : Stmt := topS 39
abbrev s_l_named : Stmt := topS 40
abbrev s_l_all_names : Stmt := topS 41
abbrev s_l_comparers : Stmt := topS 42
abbrev s_l_apart : Stmt := topS 43
abbrev s_l_layers : Stmt := topS 44
abbrev s_l_depth : Stmt := topS 45
abbrev s_l_world : Stmt := topS 46
abbrev s_l_mask : Stmt := topS 47
abbrev s_l_images : Stmt := topS 48
abbrev s_l_hits : Stmt := topS 49
abbrev s_l_wanted : Stmt := topS 50
abbrev s_l_chosen : Stmt := topS 51
abbrev s_l_unsettled : Stmt := topS 52
abbrev s_l_fill : Stmt := topS 53
abbrev s_l_shrunk : Stmt := topS 54
abbrev s_l_planted : Stmt := topS 55
abbrev s_l_frozen : Stmt := topS 56
abbrev s_l_sorter : Stmt := topS 57
abbrev s_l_value : Stmt := topS 58
abbrev s_l_change_comparers : Stmt := topS 59
abbrev s_l_change_state : Stmt := topS 60
abbrev s_l_change_covers : Stmt := topS 61
abbrev s_l_change_level : Stmt := topS 62
abbrev s_l_change : Stmt := topS 63
abbrev s_l_entry : Stmt := topS 64
abbrev s_l_following : Stmt := topS 65
abbrev s_l_hopeful : Stmt := topS 66
abbrev s_l_ended : Stmt := topS 67
abbrev s_l_untrue : Stmt := topS 68
abbrev s_l_stretched : Stmt := topS 69
abbrev s_l_told : Stmt := topS 70
abbrev s_law : Stmt := topS 71
abbrev s_init : Stmt := inClass (topS 27) 0

theorem sc_is_sorted : FnScope ["row", "k"] ["row"] (defScope s_is_sorted) := ⟨rfl, rfl, rfl, by decide +kernel, rfl, by decide +kernel, by decide +kernel⟩
theorem sc_plain_rows : FnScope ["wires", "found", "_", "row", "digit"] ["wires"] (defScope s_plain_rows) := ⟨rfl, rfl, rfl, by decide +kernel, rfl, by decide +kernel, by decide +kernel⟩
theorem sc_noughts : FnScope ["row", "digit"] ["row"] (defScope s_noughts) := ⟨rfl, rfl, rfl, by decide +kernel, rfl, by decide +kernel, by decide +kernel⟩
theorem sc_is_plain : FnScope ["wires", "row", "number"] ["wires", "row"] (defScope s_is_plain) := ⟨rfl, rfl, rfl, by decide +kernel, rfl, by decide +kernel, by decide +kernel⟩
theorem sc_is_state : FnScope ["wires", "rows", "before", "row"] ["wires", "rows"] (defScope s_is_state) := ⟨rfl, rfl, rfl, by decide +kernel, rfl, by decide +kernel, by decide +kernel⟩
theorem sc_is_renaming : FnScope ["wires", "names"] ["wires", "names"] (defScope s_is_renaming) := ⟨rfl, rfl, rfl, by decide +kernel, rfl, by decide +kernel, by decide +kernel⟩
theorem sc_renamed_row : FnScope ["row", "names", "result", "wire"] ["row", "names"] (defScope s_renamed_row) := ⟨rfl, rfl, rfl, by decide +kernel, rfl, by decide +kernel, by decide +kernel⟩
theorem sc_passed : FnScope ["row", "comparers", "result", "i", "j"] ["row", "comparers"] (defScope s_passed) := ⟨rfl, rfl, rfl, by decide +kernel, rfl, by decide +kernel, by decide +kernel⟩
theorem sc_results : FnScope ["rows", "comparers", "row"] ["rows", "comparers"] (defScope s_results) := ⟨rfl, rfl, rfl, by decide +kernel, rfl, by decide +kernel, by decide +kernel⟩
theorem sc_is_covered : FnScope ["rows", "state", "names", "row"] ["rows", "state", "names"] (defScope s_is_covered) := ⟨rfl, rfl, rfl, by decide +kernel, rfl, by decide +kernel, by decide +kernel⟩
theorem sc_is_unsettled : FnScope ["state", "counts", "row", "count"] ["state"] (defScope s_is_unsettled) := ⟨rfl, rfl, rfl, by decide +kernel, rfl, by decide +kernel, by decide +kernel⟩
theorem sc_standard_comparers : FnScope ["wires", "i", "j"] ["wires"] (defScope s_standard_comparers) := ⟨rfl, rfl, rfl, by decide +kernel, rfl, by decide +kernel, by decide +kernel⟩
theorem sc_is_apart : FnScope ["comparer", "layer", "i", "j"] ["comparer", "layer"] (defScope s_is_apart) := ⟨rfl, rfl, rfl, by decide +kernel, rfl, by decide +kernel, by decide +kernel⟩
theorem sc_standard_layers : FnScope ["wires", "found", "comparer", "longer", "layer"] ["wires"] (defScope s_standard_layers) := ⟨rfl, rfl, rfl, by decide +kernel, rfl, by decide +kernel, by decide +kernel⟩
theorem sc_has_states : FnScope ["wires", "levels", "level", "state", "_"] ["wires", "levels"] (defScope s_has_states) := ⟨rfl, rfl, rfl, by decide +kernel, rfl, by decide +kernel, by decide +kernel⟩
theorem sc_begins_whole : FnScope ["wires", "level"] ["wires", "level"] (defScope s_begins_whole) := ⟨rfl, rfl, rfl, by decide +kernel, rfl, by decide +kernel, by decide +kernel⟩
theorem sc_leads_on : FnScope ["wires", "pair", "following", "steps", "state", "covers", "at", "step", "index", "names"] ["wires", "pair", "following", "steps"] (defScope s_leads_on) := ⟨rfl, rfl, rfl, by decide +kernel, rfl, by decide +kernel, by decide +kernel⟩
theorem sc_ends_unsettled : FnScope ["level", "state", "covers"] ["level"] (defScope s_ends_unsettled) := ⟨rfl, rfl, rfl, by decide +kernel, rfl, by decide +kernel, by decide +kernel⟩
theorem sc_shows_need : FnScope ["wires", "levels", "steps", "at", "pair"] ["wires", "levels", "steps"] (defScope s_shows_need) := ⟨rfl, rfl, rfl, by decide +kernel, rfl, by decide +kernel, by decide +kernel⟩
theorem sc_layers : FnScope ["network", "found", "reached", "_", "one", "two", "level"] ["network"] (defScope s_layers) := ⟨rfl, rfl, rfl, by decide +kernel, rfl, by decide +kernel, by decide +kernel⟩
theorem sc_depth : FnScope ["network"] ["network"] (defScope s_depth) := ⟨rfl, rfl, rfl, by decide +kernel, rfl, by decide +kernel, by decide +kernel⟩
theorem sc_is_standard_sorter : FnScope ["wires", "comparers", "i", "j", "row"] ["wires", "comparers"] (defScope s_is_standard_sorter) := ⟨rfl, rfl, rfl, by decide +kernel, rfl, by decide +kernel, by decide +kernel⟩
theorem sc_takes_fewest : FnScope ["wires", "number", "paper", "word", "comparers", "levels", "steps", "comparer"] ["wires", "number", "paper"] (defScope s_takes_fewest) := ⟨rfl, rfl, rfl, by decide +kernel, rfl, by decide +kernel, by decide +kernel⟩
theorem sc_takes_layers : FnScope ["wires", "number", "paper", "word", "comparers", "levels"] ["wires", "number", "paper"] (defScope s_takes_layers) := ⟨rfl, rfl, rfl, by decide +kernel, rfl, by decide +kernel, by decide +kernel⟩
theorem sc_l_numbers : FnScope ["_law_script", "_law_count", "_law_rest", "_law_by_digits", "_law_numbers_here", "_law_k", "_law_cell"] ["_law_script", "_law_count"] (defScope s_l_numbers) := ⟨rfl, rfl, rfl, by decide +kernel, rfl, by decide +kernel, by decide +kernel⟩
theorem sc_l_draw : FnScope ["_law_rest", "_law_limit"] ["_law_rest", "_law_limit"] (defScope s_l_draw) := ⟨rfl, rfl, rfl, by decide +kernel, rfl, by decide +kernel, by decide +kernel⟩
theorem sc_l_rows : FnScope ["_law_wires", "_law_rows_here", "_law_k", "_law_longer", "_law_row"] ["_law_wires"] (defScope s_l_rows) := ⟨rfl, rfl, rfl, by decide +kernel, rfl, by decide +kernel, by decide +kernel⟩
theorem sc_l_code : FnScope ["_law_row", "_law_code_here", "_law_number"] ["_law_row"] (defScope s_l_code) := ⟨rfl, rfl, rfl, by decide +kernel, rfl, by decide +kernel, by decide +kernel⟩
theorem sc_l_passed : FnScope ["_law_row", "_law_comparers_here", "_law_cells", "_law_pair", "_law_low"] ["_law_row", "_law_comparers_here"] (defScope s_l_passed) := ⟨rfl, rfl, rfl, by decide +kernel, rfl, by decide +kernel, by decide +kernel⟩
theorem sc_l_named : FnScope ["_law_row", "_law_names", "_law_cells", "_law_wire"] ["_law_row", "_law_names"] (defScope s_l_named) := ⟨rfl, rfl, rfl, by decide +kernel, rfl, by decide +kernel, by decide +kernel⟩
theorem sc_l_all_names : FnScope ["_law_wires", "_law_found", "_law_k", "_law_longer", "_law_names", "_law_wire"] ["_law_wires"] (defScope s_l_all_names) := ⟨rfl, rfl, rfl, by decide +kernel, rfl, by decide +kernel, by decide +kernel⟩
theorem sc_l_comparers : FnScope ["_law_wires", "_law_found", "_law_i", "_law_j"] ["_law_wires"] (defScope s_l_comparers) := ⟨rfl, rfl, rfl, by decide +kernel, rfl, by decide +kernel, by decide +kernel⟩
theorem sc_l_apart : FnScope ["_law_comparer", "_law_layer", "_law_other"] ["_law_comparer", "_law_layer"] (defScope s_l_apart) := ⟨rfl, rfl, rfl, by decide +kernel, rfl, by decide +kernel, by decide +kernel⟩
theorem sc_l_layers : FnScope ["_law_wires", "_law_found", "_law_comparer", "_law_layer"] ["_law_wires"] (defScope s_l_layers) := ⟨rfl, rfl, rfl, by decide +kernel, rfl, by decide +kernel, by decide +kernel⟩
theorem sc_l_depth : FnScope ["_law_wires", "_law_comparers_here", "_law_reached", "_law_wire", "_law_pair", "_law_deep"] ["_law_wires", "_law_comparers_here"] (defScope s_l_depth) := ⟨rfl, rfl, rfl, by decide +kernel, rfl, by decide +kernel, by decide +kernel⟩
theorem sc_l_world : FnScope ["_law_wires", "_law_steps", "_law_rows_here", "_law_names", "_law_name_maps", "_law_one", "_law_row", "_law_step_maps", "_law_step"] ["_law_wires", "_law_steps"] (defScope s_l_world) := ⟨rfl, rfl, rfl, by decide +kernel, rfl, by decide +kernel, by decide +kernel⟩
theorem sc_l_mask : FnScope ["_law_codes", "_law_mask_here", "_law_code_here"] ["_law_codes"] (defScope s_l_mask) := ⟨rfl, rfl, rfl, by decide +kernel, rfl, by decide +kernel, by decide +kernel⟩
theorem sc_l_images : FnScope ["_law_state", "_law_world_here", "_law_found", "_law_table", "_law_code_here"] ["_law_state", "_law_world_here"] (defScope s_l_images) := ⟨rfl, rfl, rfl, by decide +kernel, rfl, by decide +kernel, by decide +kernel⟩
theorem sc_l_hits : FnScope ["_law_images_here", "_law_led", "_law_mask_here", "_law_found", "_law_index", "_law_k"] ["_law_images_here", "_law_led"] (defScope s_l_hits) := ⟨rfl, rfl, rfl, by decide +kernel, rfl, by decide +kernel, by decide +kernel⟩
theorem sc_l_wanted : FnScope ["_law_states", "_law_world_here", "_law_found", "_law_state", "_law_table", "_law_code_here"] ["_law_states", "_law_world_here"] (defScope s_l_wanted) := ⟨rfl, rfl, rfl, by decide +kernel, rfl, by decide +kernel, by decide +kernel⟩
theorem sc_l_chosen : FnScope ["_law_wanted_here", "_law_world_here", "_law_rest", "_law_kept", "_law_images_here", "_law_entry_here", "_law_led", "_law_table", "_law_code_here", "_law_turn"] ["_law_wanted_here", "_law_world_here", "_law_rest"] (defScope s_l_chosen) := ⟨rfl, rfl, rfl, by decide +kernel, rfl, by decide +kernel, by decide +kernel⟩
theorem sc_l_unsettled : FnScope ["_law_state", "_law_rows_here", "_law_sums", "_law_code_here", "_law_one"] ["_law_state", "_law_rows_here"] (defScope s_l_unsettled) := ⟨rfl, rfl, rfl, by decide +kernel, rfl, by decide +kernel, by decide +kernel⟩
theorem sc_l_fill : FnScope ["_law_level", "_law_states", "_law_world_here", "_law_rest", "_law_images_here", "_law_state", "_law_pair", "_law_led", "_law_hits_here", "_law_hit"] ["_law_level", "_law_states", "_law_world_here", "_law_rest"] (defScope s_l_fill) := ⟨rfl, rfl, rfl, by decide +kernel, rfl, by decide +kernel, by decide +kernel⟩
theorem sc_l_shrunk : FnScope ["_law_state", "_law_rows_here", "_law_rest", "_law_pairs", "_law_one", "_law_two"] ["_law_state", "_law_rows_here", "_law_rest"] (defScope s_l_shrunk) := ⟨rfl, rfl, rfl, by decide +kernel, rfl, by decide +kernel, by decide +kernel⟩
theorem sc_l_planted : FnScope ["_law_world_here", "_law_rest", "_law_rows_here", "_law_states", "_law_levels", "_law_count", "_law_state", "_law_pair", "_law_code_here"] ["_law_world_here", "_law_rest"] (defScope s_l_planted) := ⟨rfl, rfl, rfl, by decide +kernel, rfl, by decide +kernel, by decide +kernel⟩
theorem sc_l_frozen : FnScope ["_law_levels", "_law_told_here", "_law_level", "_law_pair"] ["_law_levels"] (defScope s_l_frozen) := ⟨rfl, rfl, rfl, by decide +kernel, rfl, by decide +kernel, by decide +kernel⟩
theorem sc_l_sorter : FnScope ["_law_wires", "_law_names", "_law_pairs", "_law_now", "_law_found", "_law_pair", "_law_low", "_law_high"] ["_law_wires", "_law_names"] (defScope s_l_sorter) := ⟨rfl, rfl, rfl, by decide +kernel, rfl, by decide +kernel, by decide +kernel⟩
theorem sc_l_value : FnScope ["_law_rest", "_law_wires", "_law_number"] ["_law_rest", "_law_wires"] (defScope s_l_value) := ⟨rfl, rfl, rfl, by decide +kernel, rfl, by decide +kernel, by decide +kernel⟩
theorem sc_l_change_comparers : FnScope ["_law_comparers_here", "_law_wires", "_law_rest", "_law_choice", "_law_at"] ["_law_comparers_here", "_law_wires", "_law_rest"] (defScope s_l_change_comparers) := ⟨rfl, rfl, rfl, by decide +kernel, rfl, by decide +kernel, by decide +kernel⟩
theorem sc_l_change_state : FnScope ["_law_rows_here", "_law_wires", "_law_rest", "_law_choice", "_law_at", "_law_size", "_law_k"] ["_law_rows_here", "_law_wires", "_law_rest"] (defScope s_l_change_state) := ⟨rfl, rfl, rfl, by decide +kernel, rfl, by decide +kernel, by decide +kernel⟩
theorem sc_l_change_covers : FnScope ["_law_covers", "_law_wires", "_law_rest", "_law_choice", "_law_at", "_law_k"] ["_law_covers", "_law_wires", "_law_rest"] (defScope s_l_change_covers) := ⟨rfl, rfl, rfl, by decide +kernel, rfl, by decide +kernel, by decide +kernel⟩
theorem sc_l_change_level : FnScope ["_law_level", "_law_wires", "_law_rest", "_law_choice", "_law_at"] ["_law_level", "_law_wires", "_law_rest"] (defScope s_l_change_level) := ⟨rfl, rfl, rfl, by decide +kernel, rfl, by decide +kernel, by decide +kernel⟩
theorem sc_l_change : FnScope ["_law_tree", "_law_wires", "_law_rest", "_law_choice", "_law_at", "_law_pair"] ["_law_tree", "_law_wires", "_law_rest"] (defScope s_l_change) := ⟨rfl, rfl, rfl, by decide +kernel, rfl, by decide +kernel, by decide +kernel⟩
theorem sc_l_entry : FnScope ["_law_states", "_law_images_here", "_law_led", "_law_world_here", "_law_rest", "_law_hits_here", "_law_hit", "_law_names", "_law_choice", "_law_wire"] ["_law_states", "_law_images_here", "_law_led", "_law_world_here", "_law_rest"] (defScope s_l_entry) := ⟨rfl, rfl, rfl, by decide +kernel, rfl, by decide +kernel, by decide +kernel⟩
theorem sc_l_following : FnScope ["_law_states", "_law_world_here", "_law_rest", "_law_found", "_law_unsettled_here", "_law_state", "_law_choice"] ["_law_states", "_law_world_here", "_law_rest"] (defScope s_l_following) := ⟨rfl, rfl, rfl, by decide +kernel, rfl, by decide +kernel, by decide +kernel⟩
theorem sc_l_hopeful : FnScope ["_law_world_here", "_law_count", "_law_rest", "_law_states", "_law_levels", "_law_at", "_law_images_here", "_law_state", "_law_pair", "_law_led"] ["_law_world_here", "_law_count", "_law_rest"] (defScope s_l_hopeful) := ⟨rfl, rfl, rfl, by decide +kernel, rfl, by decide +kernel, by decide +kernel⟩
theorem sc_l_ended : FnScope ["_law_level", "_law_world_here", "_law_rest", "_law_pair", "_law_settled", "_law_choice", "_law_code_here"] ["_law_level", "_law_world_here", "_law_rest"] (defScope s_l_ended) := ⟨rfl, rfl, rfl, by decide +kernel, rfl, by decide +kernel, by decide +kernel⟩
theorem sc_l_untrue : FnScope ["_law_world_here", "_law_count", "_law_rest", "_law_levels", "_law_at", "_law_pair", "_law_code_here"] ["_law_world_here", "_law_count", "_law_rest"] (defScope s_l_untrue) := ⟨rfl, rfl, rfl, by decide +kernel, rfl, by decide +kernel, by decide +kernel⟩
theorem sc_l_stretched : FnScope ["_law_wires", "_law_comparers_here", "_law_number", "_law_word", "_law_rest", "_law_k", "_law_standard", "_law_found", "_law_pair"] ["_law_wires", "_law_comparers_here", "_law_number", "_law_word", "_law_rest"] (defScope s_l_stretched) := ⟨rfl, rfl, rfl, by decide +kernel, rfl, by decide +kernel, by decide +kernel⟩
theorem sc_l_told : FnScope ["_law_wires", "_law_number", "_law_tree", "_law_paper"] ["_law_wires", "_law_number", "_law_tree"] (defScope s_l_told) := ⟨rfl, rfl, rfl, by decide +kernel, rfl, by decide +kernel, by decide +kernel⟩
theorem sc_law : FnScope ["_law_script", "_law_rest", "_law_wires", "_law_word", "_law_steps", "_law_pair", "_law_world_here", "_law_least", "_law_number", "_law_names", "_law_comparers_here", "_law_tree", "_law_k"] ["_law_script"] (defScope s_law) := ⟨rfl, rfl, rfl, by decide +kernel, rfl, by decide +kernel, by decide +kernel⟩
theorem sc_init : FnScope ["self", "wires", "comparers", "pair", "one", "two"] ["self", "wires", "comparers"] (defScope s_init) := ⟨rfl, rfl, rfl, by decide +kernel, rfl, by decide +kernel, by decide +kernel⟩

/-- the built-ins keep their names -/
structure Bt (mg : Str → Option Value) : Prop where
  «all» : mg "all" = none
  «range» : mg "range" = none
  «len» : mg "len" = none
  «sorted» : mg "sorted" = none
  «list» : mg "list" = none
  «tuple» : mg "tuple" = none
  «set» : mg "set" = none
  «max» : mg "max" = none
  «min» : mg "min" = none
  «sum» : mg "sum" = none
  «int» : mg "int" = none
  «reversed» : mg "reversed" = none
  «enumerate» : mg "enumerate" = none
end N
/-! HD: the head: what stands where behind the top -/
namespace N
open PySem L2
def d_is_sorted : He.DefD := ⟨("is_sorted", none), "is_sorted", "is_sorted", defArgs s_is_sorted, defBody s_is_sorted, defScope s_is_sorted, [], []⟩
def d_plain_rows : He.DefD := ⟨("plain_rows", none), "plain_rows", "plain_rows", defArgs s_plain_rows, defBody s_plain_rows, defScope s_plain_rows, [], []⟩
def d_noughts : He.DefD := ⟨("noughts", none), "noughts", "noughts", defArgs s_noughts, defBody s_noughts, defScope s_noughts, [], []⟩
def d_is_plain : He.DefD := ⟨("is_plain", none), "is_plain", "is_plain", defArgs s_is_plain, defBody s_is_plain, defScope s_is_plain, [], []⟩
def d_is_state : He.DefD := ⟨("is_state", none), "is_state", "is_state", defArgs s_is_state, defBody s_is_state, defScope s_is_state, [], []⟩
def d_is_renaming : He.DefD := ⟨("is_renaming", none), "is_renaming", "is_renaming", defArgs s_is_renaming, defBody s_is_renaming, defScope s_is_renaming, [], []⟩
def d_renamed_row : He.DefD := ⟨("renamed_row", none), "renamed_row", "renamed_row", defArgs s_renamed_row, defBody s_renamed_row, defScope s_renamed_row, [], []⟩
def d_passed : He.DefD := ⟨("passed", none), "passed", "passed", defArgs s_passed, defBody s_passed, defScope s_passed, [], []⟩
def d_results : He.DefD := ⟨("results", none), "results", "results", defArgs s_results, defBody s_results, defScope s_results, [], []⟩
def d_is_covered : He.DefD := ⟨("is_covered", none), "is_covered", "is_covered", defArgs s_is_covered, defBody s_is_covered, defScope s_is_covered, [], []⟩
def d_is_unsettled : He.DefD := ⟨("is_unsettled", none), "is_unsettled", "is_unsettled", defArgs s_is_unsettled, defBody s_is_unsettled, defScope s_is_unsettled, [], []⟩
def d_standard_comparers : He.DefD := ⟨("standard_comparers", none), "standard_comparers", "standard_comparers", defArgs s_standard_comparers, defBody s_standard_comparers, defScope s_standard_comparers, [], []⟩
def d_is_apart : He.DefD := ⟨("is_apart", none), "is_apart", "is_apart", defArgs s_is_apart, defBody s_is_apart, defScope s_is_apart, [], []⟩
def d_standard_layers : He.DefD := ⟨("standard_layers", none), "standard_layers", "standard_layers", defArgs s_standard_layers, defBody s_standard_layers, defScope s_standard_layers, [], []⟩
def d_has_states : He.DefD := ⟨("has_states", none), "has_states", "has_states", defArgs s_has_states, defBody s_has_states, defScope s_has_states, [], []⟩
def d_begins_whole : He.DefD := ⟨("begins_whole", none), "begins_whole", "begins_whole", defArgs s_begins_whole, defBody s_begins_whole, defScope s_begins_whole, [], []⟩
def d_leads_on : He.DefD := ⟨("leads_on", none), "leads_on", "leads_on", defArgs s_leads_on, defBody s_leads_on, defScope s_leads_on, [], []⟩
def d_ends_unsettled : He.DefD := ⟨("ends_unsettled", none), "ends_unsettled", "ends_unsettled", defArgs s_ends_unsettled, defBody s_ends_unsettled, defScope s_ends_unsettled, [], []⟩
def d_shows_need : He.DefD := ⟨("shows_need", none), "shows_need", "shows_need", defArgs s_shows_need, defBody s_shows_need, defScope s_shows_need, [], []⟩
def d_layers : He.DefD := ⟨("layers", none), "layers", "layers", defArgs s_layers, defBody s_layers, defScope s_layers, [], []⟩
def d_depth : He.DefD := ⟨("depth", none), "depth", "depth", defArgs s_depth, defBody s_depth, defScope s_depth, [], []⟩
def d_is_standard_sorter : He.DefD := ⟨("is_standard_sorter", none), "is_standard_sorter", "is_standard_sorter", defArgs s_is_standard_sorter, defBody s_is_standard_sorter, defScope s_is_standard_sorter, [], []⟩
def d_takes_fewest : He.DefD := ⟨("takes_fewest", none), "takes_fewest", "takes_fewest", defArgs s_takes_fewest, defBody s_takes_fewest, defScope s_takes_fewest, [], []⟩
def d_takes_layers : He.DefD := ⟨("takes_layers", none), "takes_layers", "takes_layers", defArgs s_takes_layers, defBody s_takes_layers, defScope s_takes_layers, [], []⟩
def d_l_numbers : He.DefD := ⟨("_law_numbers", none), "_law_numbers", "_law_numbers", defArgs s_l_numbers, defBody s_l_numbers, defScope s_l_numbers, [], []⟩
def d_l_draw : He.DefD := ⟨("_law_draw", none), "_law_draw", "_law_draw", defArgs s_l_draw, defBody s_l_draw, defScope s_l_draw, [], []⟩
def d_l_rows : He.DefD := ⟨("_law_rows", none), "_law_rows", "_law_rows", defArgs s_l_rows, defBody s_l_rows, defScope s_l_rows, [], []⟩
def d_l_code : He.DefD := ⟨("_law_code", none), "_law_code", "_law_code", defArgs s_l_code, defBody s_l_code, defScope s_l_code, [], []⟩
def d_l_passed : He.DefD := ⟨("_law_passed", none), "_law_passed", "_law_passed", defArgs s_l_passed, defBody s_l_passed, defScope s_l_passed, [], []⟩
def d_l_named : He.DefD := ⟨("_law_named", none), "_law_named", "_law_named", defArgs s_l_named, defBody s_l_named, defScope s_l_named, [], []⟩
def d_l_all_names : He.DefD := ⟨("_law_all_names", none), "_law_all_names", "_law_all_names", defArgs s_l_all_names, defBody s_l_all_names, defScope s_l_all_names, [], []⟩
def d_l_comparers : He.DefD := ⟨("_law_comparers", none), "_law_comparers", "_law_comparers", defArgs s_l_comparers, defBody s_l_comparers, defScope s_l_comparers, [], []⟩
def d_l_apart : He.DefD := ⟨("_law_apart", none), "_law_apart", "_law_apart", defArgs s_l_apart, defBody s_l_apart, defScope s_l_apart, [], []⟩
def d_l_layers : He.DefD := ⟨("_law_layers", none), "_law_layers", "_law_layers", defArgs s_l_layers, defBody s_l_layers, defScope s_l_layers, [], []⟩
def d_l_depth : He.DefD := ⟨("_law_depth", none), "_law_depth", "_law_depth", defArgs s_l_depth, defBody s_l_depth, defScope s_l_depth, [], []⟩
def d_l_world : He.DefD := ⟨("_law_world", none), "_law_world", "_law_world", defArgs s_l_world, defBody s_l_world, defScope s_l_world, [], []⟩
def d_l_mask : He.DefD := ⟨("_law_mask", none), "_law_mask", "_law_mask", defArgs s_l_mask, defBody s_l_mask, defScope s_l_mask, [], []⟩
def d_l_images : He.DefD := ⟨("_law_images", none), "_law_images", "_law_images", defArgs s_l_images, defBody s_l_images, defScope s_l_images, [], []⟩
def d_l_hits : He.DefD := ⟨("_law_hits", none), "_law_hits", "_law_hits", defArgs s_l_hits, defBody s_l_hits, defScope s_l_hits, [], []⟩
def d_l_wanted : He.DefD := ⟨("_law_wanted", none), "_law_wanted", "_law_wanted", defArgs s_l_wanted, defBody s_l_wanted, defScope s_l_wanted, [], []⟩
def d_l_chosen : He.DefD := ⟨("_law_chosen", none), "_law_chosen", "_law_chosen", defArgs s_l_chosen, defBody s_l_chosen, defScope s_l_chosen, [], []⟩
def d_l_unsettled : He.DefD := ⟨("_law_unsettled", none), "_law_unsettled", "_law_unsettled", defArgs s_l_unsettled, defBody s_l_unsettled, defScope s_l_unsettled, [], []⟩
def d_l_fill : He.DefD := ⟨("_law_fill", none), "_law_fill", "_law_fill", defArgs s_l_fill, defBody s_l_fill, defScope s_l_fill, [], []⟩
def d_l_shrunk : He.DefD := ⟨("_law_shrunk", none), "_law_shrunk", "_law_shrunk", defArgs s_l_shrunk, defBody s_l_shrunk, defScope s_l_shrunk, [], []⟩
def d_l_planted : He.DefD := ⟨("_law_planted", none), "_law_planted", "_law_planted", defArgs s_l_planted, defBody s_l_planted, defScope s_l_planted, [], []⟩
def d_l_frozen : He.DefD := ⟨("_law_frozen", none), "_law_frozen", "_law_frozen", defArgs s_l_frozen, defBody s_l_frozen, defScope s_l_frozen, [], []⟩
def d_l_sorter : He.DefD := ⟨("_law_sorter", none), "_law_sorter", "_law_sorter", defArgs s_l_sorter, defBody s_l_sorter, defScope s_l_sorter, [], []⟩
def d_l_value : He.DefD := ⟨("_law_value", none), "_law_value", "_law_value", defArgs s_l_value, defBody s_l_value, defScope s_l_value, [], []⟩
def d_l_change_comparers : He.DefD := ⟨("_law_change_comparers", none), "_law_change_comparers", "_law_change_comparers", defArgs s_l_change_comparers, defBody s_l_change_comparers, defScope s_l_change_comparers, [], []⟩
def d_l_change_state : He.DefD := ⟨("_law_change_state", none), "_law_change_state", "_law_change_state", defArgs s_l_change_state, defBody s_l_change_state, defScope s_l_change_state, [], []⟩
def d_l_change_covers : He.DefD := ⟨("_law_change_covers", none), "_law_change_covers", "_law_change_covers", defArgs s_l_change_covers, defBody s_l_change_covers, defScope s_l_change_covers, [], []⟩
def d_l_change_level : He.DefD := ⟨("_law_change_level", none), "_law_change_level", "_law_change_level", defArgs s_l_change_level, defBody s_l_change_level, defScope s_l_change_level, [], []⟩
def d_l_change : He.DefD := ⟨("_law_change", none), "_law_change", "_law_change", defArgs s_l_change, defBody s_l_change, defScope s_l_change, [], []⟩
def d_l_entry : He.DefD := ⟨("_law_entry", none), "_law_entry", "_law_entry", defArgs s_l_entry, defBody s_l_entry, defScope s_l_entry, [], []⟩
def d_l_following : He.DefD := ⟨("_law_following", none), "_law_following", "_law_following", defArgs s_l_following, defBody s_l_following, defScope s_l_following, [], []⟩
def d_l_hopeful : He.DefD := ⟨("_law_hopeful", none), "_law_hopeful", "_law_hopeful", defArgs s_l_hopeful, defBody s_l_hopeful, defScope s_l_hopeful, [], []⟩
def d_l_ended : He.DefD := ⟨("_law_ended", none), "_law_ended", "_law_ended", defArgs s_l_ended, defBody s_l_ended, defScope s_l_ended, [], []⟩
def d_l_untrue : He.DefD := ⟨("_law_untrue", none), "_law_untrue", "_law_untrue", defArgs s_l_untrue, defBody s_l_untrue, defScope s_l_untrue, [], []⟩
def d_l_stretched : He.DefD := ⟨("_law_stretched", none), "_law_stretched", "_law_stretched", defArgs s_l_stretched, defBody s_l_stretched, defScope s_l_stretched, [], []⟩
def d_l_told : He.DefD := ⟨("_law_told", none), "_law_told", "_law_told", defArgs s_l_told, defBody s_l_told, defScope s_l_told, [], []⟩
def d_law : He.DefD := ⟨("law", none), "law", "law", defArgs s_law, defBody s_law, defScope s_law, [], []⟩
def d_init : He.DefD := ⟨("Network", some "__init__"), "__init__", "Network.__init__", defArgs s_init, defBody s_init, defScope s_init, [], []⟩
def fn : List He.DefD := [d_is_sorted, d_plain_rows, d_noughts, d_is_plain, d_is_state, d_is_renaming, d_renamed_row, d_passed, d_results, d_is_covered, d_is_unsettled, d_standard_comparers, d_is_apart, d_standard_layers, d_has_states, d_begins_whole, d_leads_on, d_ends_unsettled, d_shows_need, d_layers, d_depth, d_is_standard_sorter, d_takes_fewest, d_takes_layers, d_l_numbers, d_l_draw, d_l_rows, d_l_code, d_l_passed, d_l_named, d_l_all_names, d_l_comparers, d_l_apart, d_l_layers, d_l_depth, d_l_world, d_l_mask, d_l_images, d_l_hits, d_l_wanted, d_l_chosen, d_l_unsettled, d_l_fill, d_l_shrunk, d_l_planted, d_l_frozen, d_l_sorter, d_l_value, d_l_change_comparers, d_l_change_state, d_l_change_covers, d_l_change_level, d_l_change, d_l_entry, d_l_following, d_l_hopeful, d_l_ended, d_l_untrue, d_l_stretched, d_l_told, d_law, d_init]
def fa0 : List He.Fa := [.glo "is_sorted", .glo "plain_rows", .glo "noughts", .glo "is_plain", .glo "is_state", .glo "is_renaming", .glo "renamed_row", .glo "passed", .glo "results", .glo "is_covered", .glo "is_unsettled", .glo "standard_comparers", .glo "is_apart", .glo "standard_layers", .glo "has_states", .glo "begins_whole", .glo "leads_on", .glo "ends_unsettled"]
def fa1 : List He.Fa := [.glo "shows_need", .glo "layers", .glo "depth", .glo "is_standard_sorter", .glo "takes_fewest", .glo "takes_layers", .glo "_law_numbers", .glo "_law_draw", .glo "_law_rows", .glo "_law_code", .glo "_law_passed", .glo "_law_named", .glo "_law_all_names", .glo "_law_comparers", .glo "_law_apart", .glo "_law_layers", .glo "_law_depth", .glo "_law_world"]
def fa2 : List He.Fa := [.glo "_law_mask", .glo "_law_images", .glo "_law_hits", .glo "_law_wanted", .glo "_law_chosen", .glo "_law_unsettled", .glo "_law_fill", .glo "_law_shrunk", .glo "_law_planted", .glo "_law_frozen", .glo "_law_sorter", .glo "_law_value", .glo "_law_change_comparers", .glo "_law_change_state", .glo "_law_change_covers", .glo "_law_change_level", .glo "_law_change", .glo "_law_entry"]
def fa3 : List He.Fa := [.glo "_law_following", .glo "_law_hopeful", .glo "_law_ended", .glo "_law_untrue", .glo "_law_stretched", .glo "_law_told", .glo "law", .glo "Network", .free "all", .free "range", .free "len", .free "sorted", .free "list", .free "tuple", .free "set", .free "max", .free "min", .free "sum"]
def fa4 : List He.Fa := [.free "int", .free "reversed", .free "enumerate", .cls "Network", .noat "Network" "wires", .noat "Network" "comparers", .mkr "Network"]
def fa : List He.Fa := fa0 ++ fa1 ++ fa2 ++ fa3 ++ fa4
def loose0 : List Str := ["_wall", "is_sorted", "plain_rows", "noughts", "is_plain", "is_state", "is_renaming", "renamed_row", "passed", "results", "is_covered", "is_unsettled", "standard_comparers", "is_apart", "standard_layers", "has_states", "begins_whole", "leads_on"]
def loose1 : List Str := ["ends_unsettled", "shows_need", "layers", "depth", "is_standard_sorter", "takes_fewest", "takes_layers", "_law_numbers", "_law_draw", "_law_rows", "_law_code", "_law_passed", "_law_named", "_law_all_names", "_law_comparers", "_law_apart", "_law_layers", "_law_depth"]
def loose2 : List Str := ["_law_world", "_law_mask", "_law_images", "_law_hits", "_law_wanted", "_law_chosen", "_law_unsettled", "_law_fill", "_law_shrunk", "_law_planted", "_law_frozen", "_law_sorter", "_law_value", "_law_change_comparers", "_law_change_state", "_law_change_covers", "_law_change_level", "_law_change"]
def loose3 : List Str := ["_law_entry", "_law_following", "_law_hopeful", "_law_ended", "_law_untrue", "_law_stretched", "_law_told", "NetworkError", "InvalidNetwork", "Network"]
def loose : List Str := loose0 ++ loose1 ++ loose2 ++ loose3
abbrev RR : PySem.W.OpenRow := PySem.W.OpenLaw.row PySem.Challenge.rw_neededrows_k69_whole_no_untrue_number
abbrev hk : PySem.W.Hook := He.hookD 4 fa fn
def ob (s : PySem.W.SharedT) : He.AlD := He.obsDG 4 fa fn (HandSHeadRun.getT s)
theorem ob_eq (s : PySem.W.SharedT) : ob s = hk.obs s.abs := He.obsDG_eq (HandSHeadRun.getT_eq s)
theorem run (w : World) : HandSHeadRun.RunEq RR (PySem.W.view RR.prog [71]) hk ob 4000 loose w := by
  intro os
  kernel_rfl
end N
/-! NT: readings, step by step -/
namespace N
open PySem L2
section
variable {K : PySem.W.Frag} {σ : L2.St} {H : Hp} {D : Ends} {t u : TS} {te ta tb tc tl : TE} {g : TG} {Q : VK} {i : Nat} {v x y : V} {P : Prop}
theorem rd_seq (h : t { D with nx := u D } σ H) : tSeq t u D σ H := h
theorem rd_asg (h : te σ H fun x H1 => g x σ H1 D.nx) : tAsg te g D σ H := h
theorem rd_name {R : L2.St → Hp → Prop} (h : R (σ.set i (some v)) H) : gName i v σ H R := h
theorem rd_ret (h : te σ H D.rt) : tRet te D σ H := h
theorem rd_drop (h : te σ H fun _ H1 => D.nx σ H1) : tDrop te D σ H := h
theorem rd_next (h : D.nx σ H) : tNext D σ H := h
theorem rd_break (h : D.bk σ H) : tBreak D σ H := h
theorem rd_if {c : TT} (h : c σ H fun b H1 => if b = true then t D σ H1 else u D σ H1) : tIfS c t u D σ H := h
theorem rd_for {wi : TI} (h : wi σ H fun J H1 => ∃ W : Nat → Nat → L2.St → Hp → Prop, (∃ m, W 0 m σ H1) ∧ ∀ i m σ H, W i m σ H →
  (J.stop i H ∧ D.nx σ H) ∨ (J.go i H ∧ ∃ N : L2.St → Hp → Prop, (∀ σ' H', N σ' H' → ∃ m', m' < m ∧ W (i + 1) m' σ' H') ∧ ∀ x H', J.yld i H x H' → g x σ H' fun σ2 H2 => t { D with nx := N, ct := N, bk := D.nx } σ2 H2)) :
  tFor wi g t D σ H := h
theorem rd_iL {R : It → Hp → Prop} (h : tl σ H fun x H1 => ∃ a, x = .ref a ∧ (∃ xs, SqL K H1 a xs) ∧ R (Itl K a) H1) : iList K tl σ H R := h
theorem rd_iT {R : It → Hp → Prop} (h : tl σ H fun x H1 => ∃ a, x = .ref a ∧ (∃ xs, SqT K H1 a xs) ∧ R (Itt K a) H1) : iTup K tl σ H R := h
theorem rd_i1 {ta : TA} {R : It → Hp → Prop} (h : ta σ H fun vs H1 => ∃ j : Int, vs = [.int j] ∧ -(2 ^ 62) ≤ j ∧ j < 2 ^ 62 ∧ R (Itr 0 j.toNat) H1) : iRng1 ta σ H R := h
theorem rd_i2 {ta : TA} {R : It → Hp → Prop} (h : ta σ H fun vs H1 => ∃ i j : Int, vs = [.int i, .int j] ∧ (-(2 ^ 62) ≤ i ∧ i < 2 ^ 62 ∧ -(2 ^ 62) ≤ j ∧ j < 2 ^ 62) ∧ R (Itr i (j - i).toNat) H1) : iRng2 ta σ H R := h
theorem rd_var (h : σ[i]? = some (some v)) (q : Q v H) : tVar i σ H Q := ⟨v, h, q⟩
theorem rd_c (q : Q v H) : tC v σ H Q := q
theorem rd_op {r : R2} (h : ta σ H fun x H1 => tb σ H1 fun y H2 => r x y H2 Q) : tOp r ta tb σ H Q := h
theorem rd_un {r : V → Hp → VK → Prop} (h : ta σ H fun x H1 => r x H1 Q) : tUn r ta σ H Q := h
theorem rd_I0 {gf : Int → Int → V} {i j : Int} (q : Q (gf i j) H) : rI0 gf (.int i) (.int j) H Q := ⟨_, _, rfl, rfl, q⟩
theorem rd_I {C : Int → Int → Prop} {gf : Int → Int → V} {i j : Int} (c : C i j) (q : Q (gf i j) H) : rI C gf (.int i) (.int j) H Q := ⟨_, _, rfl, rfl, c, q⟩
theorem rd_eqI {i j : Int} (q : Q (.bl (decide (i = j))) H) : rEq (.int i) (.int j) H Q :=
  ⟨rfl, by
    have e : decide (V.int i = V.int j) = decide (i = j) := decide_eq_decide.mpr ⟨fun h => V.int.inj h, fun h => congrArg V.int h⟩
    rw [e]; exact q⟩
theorem rd_neI {i j : Int} (q : Q (.bl (decide (i ≠ j))) H) : rNe (.int i) (.int j) H Q :=
  ⟨rfl, by
    have e : (!decide (V.int i = V.int j)) = decide (i ≠ j) := by
      by_cases h : i = j
      · subst h; simp
      · have : ¬ V.int i = V.int j := fun z => h (V.int.inj z)
        simp [h]
    rw [e]; exact q⟩
theorem rd_eqS {i j : Str} (q : Q (.bl (decide (i = j))) H) : rEq (.str i) (.str j) H Q :=
  ⟨rfl, by
    have e : decide (V.str i = V.str j) = decide (i = j) := decide_eq_decide.mpr ⟨fun h => V.str.inj h, fun h => congrArg V.str h⟩
    rw [e]; exact q⟩
theorem rd_neS {i j : Str} (q : Q (.bl (decide (i ≠ j))) H) : rNe (.str i) (.str j) H Q :=
  ⟨rfl, by
    have e : (!decide (V.str i = V.str j)) = decide (i ≠ j) := by
      by_cases h : i = j
      · subst h; simp
      · have : ¬ V.str i = V.str j := fun z => h (V.str.inj z)
        simp [h]
    rw [e]; exact q⟩
theorem rd_test {R : Bool → Hp → Prop} (h : te σ H fun x H1 => ∃ k, x = .bl k ∧ R k H1) : tTest te σ H R := h
theorem rd_B {R : Bool → Hp → Prop} (h : te σ H fun x H1 => ∃ k, x = .bl k ∧ R k H1) : tB te σ H R := h
theorem rd_bl {k : Bool} {R : Bool → Prop} (q : R k) : ∃ c, V.bl k = .bl c ∧ R c := ⟨k, rfl, q⟩
theorem rd_and {a b : TT} {R : Bool → Hp → Prop} (h : a σ H fun c H1 => if c = true then b σ H1 R else R false H1) : tAnd a b σ H R := h
theorem rd_or {a b : TT} {R : Bool → Hp → Prop} (h : a σ H fun c H1 => if c = true then R true H1 else b σ H1 R) : tOr a b σ H R := h
theorem rd_not {a : TT} {R : Bool → Hp → Prop} (h : a σ H fun c H1 => R (!c) H1) : tNot a σ H R := h
theorem rd_andV (h : ta σ H fun x H1 => ∃ c, x = .bl c ∧ if c = true then tb σ H1 Q else Q (.bl false) H1) : tAndV ta tb σ H Q := h
theorem rd_cons {tr : TA} {R : List V → Hp → Prop} (h : ta σ H fun x H1 => tr σ H1 fun xs H2 => R (x :: xs) H2) : tCons ta tr σ H R := h
theorem rd_nil {R : List V → Hp → Prop} (h : R [] H) : tNil σ H R := h
theorem rd_CB {r : List V → Hp → VK → Prop} {tas : TA} (h : tas σ H fun vs H1 => r vs H1 Q) : tCB r tas σ H Q := h
theorem rd_call {sp : Sp} {dvs : List V} {E : XK} {tas : TA} (h : tas σ H fun vs H1 => sp (vs ++ dvs) H1 Q E) : tCall sp dvs E tas σ H Q := h
theorem rd_tup {tas : TA} (h : tas σ H fun xs H1 => xs.length ≤ sizeLine ∧ ∀ p, H1 p = none → Q (.ref p) (upd H1 p (.tup xs))) : tTup tas σ H Q := h
theorem rd_lst {tas : TA} (h : tas σ H fun xs H1 => xs.length ≤ sizeLine ∧ ∀ p, H1 p = none → Q (.ref p) (upd H1 p (.lst xs))) : tLst tas σ H Q := h
theorem rd_BM {T : String} {r : V → List V → Hp → VK → Prop} {tas : TA} (h : te σ H fun x H1 => tyV K T x H1 ∧ tas σ H1 fun xs H2 => r x xs H2 Q) : tBM K T r te tas σ H Q := h
theorem rd_BM0 {T : String} {r : V → List V → Hp → VK → Prop} (h : te σ H fun x H1 => tyV K T x H1 ∧ r x [] H1 Q) : tBM0 K T r te σ H Q := h
theorem rd_sl {r : V → Option Int → Option Int → Hp → VK → Prop} {a b : TO} (h : te σ H fun x H1 => a σ H1 fun l H2 => b σ H2 fun u H3 => r x l u H3 Q) : tSl r te a b σ H Q := h
theorem rd_np {R : Option Int → Hp → Prop} (h : R none H) : tNoPart σ H R := h
theorem rd_part {R : Option Int → Hp → Prop} (h : te σ H fun x H1 => ∃ i, x = .int i ∧ R (some i) H1) : tPart te σ H R := h
theorem rd_in {i : Int} {R : Int → Prop} (q : R i) : ∃ c, V.int i = .int c ∧ R c := ⟨i, rfl, q⟩
theorem rd_sub {to ti : TE} {ts : TSet} {R : L2.St → Hp → Prop} (h : to σ H fun o H1 => ti σ H1 fun i H2 => ts o i v H2 fun H3 => R σ H3) : gSub to ti ts v σ H R := h
theorem rd_chain {r r' : R2} (h : ta σ H fun x H1 => tb σ H1 fun y H2 => r x y H2 fun z H3 => ∃ k, z = .bl k ∧
  (if k = true then tc σ H3 fun w' H4 => r' y w' H4 Q else Q (.bl false) H3)) : tChain r r' ta tb tc σ H Q := h
theorem rd_chain3 {r1 r2 r3 : R2} {td : TE} {R : Bool → Hp → Prop} (h : ta σ H fun x H1 => tb σ H1 fun y H2 => r1 x y H2 fun z H3 => ∃ k, z = .bl k ∧
    (if k = true then tc σ H3 fun u H4 => r2 y u H4 fun z2 H5 => ∃ k2, z2 = .bl k2 ∧
      (if k2 = true then td σ H5 fun v H6 => r3 u v H6 fun z3 H7 => ∃ k3, z3 = .bl k3 ∧ R k3 H7 else R false H5)
      else R false H3)) : tChain3 r1 r2 r3 ta tb tc td σ H R := h
theorem rd_ite {p : Prop} [Decidable p] {A B : Prop} (h1 : p → A) (h2 : ¬ p → B) : if decide p = true then A else B := by
  by_cases h : p
  · rw [decide_eq_true h]; exact iteT (h1 h)
  · rw [decide_eq_false h]; exact iteF (h2 h)
theorem rd_iteB {b : Bool} {A B : Prop} (h1 : b = true → A) (h2 : b = false → B) : if b = true then A else B := by
  cases b with
  | true => exact iteT (h1 rfl)
  | false => exact iteF (h2 rfl)
theorem rd_iteN {b : Bool} {A B : Prop} (h1 : b = false → A) (h2 : b = true → B) : if (!b) = true then A else B := by
  cases b with
  | true => exact iteF (h2 rfl)
  | false => exact iteT (h1 rfl)
theorem rd_iteNd {p : Prop} [Decidable p] {A B : Prop} (h1 : ¬ p → A) (h2 : p → B) : if (!decide p) = true then A else B := by
  by_cases h : p
  · rw [decide_eq_true h]; exact iteF (h2 h)
  · rw [decide_eq_false h]; exact iteT (h1 h)
/-! facts of the heap -/
theorem same_up {G G' : Hp} {a : Addr} {o : HO} (E : Same G G') (h : G a = some o) : G' a = some o := E a o h
theorem hs_g {G M : Hp} {a : Addr} {o : HO} (S : Hs G M H) (h : G a = some o) : H a = some o := S.g a o h
theorem hs_m {G M : Hp} {a : Addr} {o : HO} (S : Hs G M H) (h : M a = some o) : H a = some o := S.m a o h
/-! operations on things in the heap -/
theorem rd_lenL {p : Addr} {ys : List V} (h : H p = some (.lst ys)) (q : Q (.int ys.length) H) : rLn K [.ref p] H Q := ⟨p, ys, rfl, .inl (SqL.of h), q⟩
theorem rd_lenT {p : Addr} {ys : List V} (h : H p = some (.tup ys)) (q : Q (.int ys.length) H) : rLn K [.ref p] H Q := ⟨p, ys, rfl, .inr (SqT.of h), q⟩
theorem rd_ixL {p : Addr} {xs : List V} {i : Int} (h : H p = some (.lst xs)) (e : atI xs i = some v) (q : Q v H) : rIxL K (.ref p) (.int i) H Q := ⟨p, xs, i, v, rfl, rfl, SqL.of h, e, q⟩
theorem rd_ixT {p : Addr} {xs : List V} {i : Int} (h : H p = some (.tup xs)) (e : atI xs i = some v) (q : Q v H) : rIxT K (.ref p) (.int i) H Q := ⟨p, xs, i, v, rfl, rfl, SqT.of h, e, q⟩
theorem rd_append {p : Addr} {xs : List V} (h : H p = some (.lst xs)) (hz : xs.length < sizeLine) (q : Q .non (upd H p (.lst (xs ++ [y])))) : rAppend (.ref p) [y] H Q := ⟨p, xs, y, rfl, rfl, h, hz, q⟩
theorem ty_lst {p : Addr} {xs : List V} (h : H p = some (.lst xs)) : tyV K "list" (.ref p) H := .inl ⟨rfl, _, .inl (.inl h)⟩
theorem rd_setL {p : Addr} {xs : List V} {k : Int} {j : Nat} {R : Hp → Prop} (h : H p = some (.lst xs)) (e : ixN xs.length k = some j) (q : R (upd H p (.lst (xs.set j y)))) : rSetL (.ref p) (.int k) y H R := ⟨p, xs, k, j, rfl, rfl, h, e, q⟩
theorem ixN_nat {n j : Nat} (h : j < n) : ixN n (j : Int) = some j := by
  unfold ixN
  rw [if_pos (by omega), if_pos (by omega)]
  simp
theorem ixN_of {n j : Nat} {i : Int} (e : i = (j : Int)) (h : j < n) : ixN n i = some j := by
  subst e
  exact ixN_nat h
theorem rd_unp {p : Addr} {xs : List V} {n : Nat} {ts : TGs} {R : L2.St → Hp → Prop} (h : H p = some (.tup xs)) (e : xs.length = n) (q : ts xs σ H R) : gTup K n ts (.ref p) σ H R := ⟨p, xs, rfl, SqT.of h, e, q⟩
theorem rd_unp2 {p : Addr} {x y : V} {ts : TGs} {R : L2.St → Hp → Prop} (h : H p = some (.tup [x, y])) (q : ts [x, y] σ H R) : gTup K 2 ts (.ref p) σ H R := ⟨p, _, rfl, SqT.of h, rfl, q⟩
theorem rd_gcons {tg : TG} {ts : TGs} {vs : List V} {R : L2.St → Hp → Prop} (h : tg v σ H fun σ' H' => ts vs σ' H' R) : gCons tg ts (v :: vs) σ H R := ⟨v, vs, rfl, h⟩
theorem rd_gnil {R : L2.St → Hp → Prop} (h : R σ H) : gNil [] σ H R := ⟨rfl, h⟩
end

/-! loops: I says what holds ahead of turn i, of the slots, what stays, what may change -/
section
variable {K : PySem.W.Frag} {g : TG} {tb : TS} {D : Ends} {σ : L2.St} {H G0 M0 : Hp} {tl : TE}
def Nx (I : Nat → L2.St → Hp → Hp → Prop) (i : Nat) : L2.St → Hp → Prop := fun σ H => ∃ G M, Hs G M H ∧ I i σ G M
/-- tl gives x and changes nothing -/
def Gv (tl : TE) (σ : L2.St) (H : Hp) (x : V) : Prop := ∀ R : V → Hp → Prop, R x H → tl σ H R
def GvA (ta : TA) (σ : L2.St) (H : Hp) (xs : List V) : Prop := ∀ R : List V → Hp → Prop, R xs H → ta σ H R
theorem loopL {a : Addr} (xs : List V) (I : Nat → L2.St → Hp → Hp → Prop) (S : Hs G0 M0 H) (htl : Gv tl σ H (.ref a)) (h0 : I 0 σ G0 M0)
    (hl : ∀ i σ G M, I i σ G M → ∀ H, Hs G M H → H a = some (.lst xs))
    (step : ∀ i x σ G M H, xs[i]? = some x → I i σ G M → Hs G M H → g x σ H fun σ2 H2 => tb { D with nx := Nx I (i + 1), ct := Nx I (i + 1), bk := D.nx } σ2 H2)
    (done : ∀ σ G M H, I xs.length σ G M → Hs G M H → D.nx σ H) : tFor (iList K tl) g tb D σ H :=
  htl _ ⟨a, rfl, ⟨xs, SqL.of (hl 0 σ G0 M0 h0 H S)⟩, for_list (fun i σ H => Nx I i σ H) ⟨G0, M0, S, h0⟩ (fun i σ H _ ⟨G, M, S, h⟩ => SqL.of (hl i σ G M h H S))
    (fun i x σ H hx ⟨G, M, S, h⟩ => step i x σ G M H hx h S) fun σ H ⟨G, M, S, h⟩ => done σ G M H h S⟩
theorem loopT {a : Addr} (xs : List V) (I : Nat → L2.St → Hp → Hp → Prop) (S : Hs G0 M0 H) (htl : Gv tl σ H (.ref a)) (h0 : I 0 σ G0 M0)
    (hl : ∀ i σ G M, I i σ G M → ∀ H, Hs G M H → H a = some (.tup xs))
    (step : ∀ i x σ G M H, xs[i]? = some x → I i σ G M → Hs G M H → g x σ H fun σ2 H2 => tb { D with nx := Nx I (i + 1), ct := Nx I (i + 1), bk := D.nx } σ2 H2)
    (done : ∀ σ G M H, I xs.length σ G M → Hs G M H → D.nx σ H) : tFor (iTup K tl) g tb D σ H :=
  htl _ ⟨a, rfl, ⟨xs, SqT.of (hl 0 σ G0 M0 h0 H S)⟩, for_tup (fun i σ H => Nx I i σ H) ⟨G0, M0, S, h0⟩ (fun i σ H _ ⟨G, M, S, h⟩ => SqT.of (hl i σ G M h H S))
    (fun i x σ H hx ⟨G, M, S, h⟩ => step i x σ G M H hx h S) fun σ H ⟨G, M, S, h⟩ => done σ G M H h S⟩
theorem loopR {ta : TA} {n : Nat} (I : Nat → L2.St → Hp → Hp → Prop) (S : Hs G0 M0 H) (hta : GvA ta σ H [.int (n : Int)]) (hn : n < 2 ^ 62) (h0 : I 0 σ G0 M0)
    (step : ∀ i σ G M H, i < n → I i σ G M → Hs G M H → g (.int ((i : Nat) : Int)) σ H fun σ2 H2 => tb { D with nx := Nx I (i + 1), ct := Nx I (i + 1), bk := D.nx } σ2 H2)
    (done : ∀ σ G M H, I n σ G M → Hs G M H → D.nx σ H) : tFor (iRng1 ta) g tb D σ H := by
  refine hta _ ⟨n, rfl, by omega, by omega, ?_⟩
  have e : ((n : Int)).toNat = n := by simp
  rw [e]
  refine for_range (fun i σ H => Nx I i σ H) ⟨G0, M0, S, h0⟩ (fun i σ H hi ⟨G, M, S, h⟩ => ?_) fun σ H ⟨G, M, S, h⟩ => done σ G M H h S
  have e2 : (0 : Int) + (i : Nat) = ((i : Nat) : Int) := by omega
  rw [e2]
  exact step i σ G M H hi h S
theorem loopR2 {ta : TA} {m n : Nat} (I : Nat → L2.St → Hp → Hp → Prop) (S : Hs G0 M0 H) (hta : GvA ta σ H [.int (m : Int), .int (n : Int)]) (hm : m < 2 ^ 62) (hn : n < 2 ^ 62) (h0 : I 0 σ G0 M0)
    (step : ∀ i σ G M H, m + i < n → I i σ G M → Hs G M H → g (.int ((m + i : Nat) : Int)) σ H fun σ2 H2 => tb { D with nx := Nx I (i + 1), ct := Nx I (i + 1), bk := D.nx } σ2 H2)
    (done : ∀ σ G M H, I (n - m) σ G M → Hs G M H → D.nx σ H) : tFor (iRng2 ta) g tb D σ H := by
  refine hta _ ⟨m, n, rfl, ⟨by omega, by omega, by omega, by omega⟩, ?_⟩
  have e : ((n : Int) - (m : Int)).toNat = n - m := by omega
  rw [e]
  refine for_range (fun i σ H => Nx I i σ H) ⟨G0, M0, S, h0⟩ (fun i σ H hi ⟨G, M, S, h⟩ => ?_) fun σ H ⟨G, M, S, h⟩ => done σ G M H h S
  have e2 : (m : Int) + (i : Nat) = ((m + i : Nat) : Int) := by omega
  rw [e2]
  exact step i σ G M H (by omega) h S
/-- for i, x in enumerate(xs): the pair a new tuple at T -/
theorem loopE {ta : TA} {a : Addr} (xs : List V) (I : Nat → L2.St → Hp → Hp → Prop) (S : Hs G0 M0 H) (hta : GvA ta σ H [.ref a]) (h0 : I 0 σ G0 M0)
    (hl : ∀ i σ G M, I i σ G M → ∀ H, Hs G M H → H a = some (.lst xs))
    (step : ∀ i x σ G M H T, xs[i]? = some x → I i σ G M → Hs G M H → G T = some (.tup [.int (i : Nat), x]) → g (.ref T) σ H fun σ2 H2 => tb { D with nx := Nx I (i + 1), ct := Nx I (i + 1), bk := D.nx } σ2 H2)
    (up : ∀ i σ G G' M, I i σ G M → Same G G' → I i σ G' M)
    (done : ∀ σ G M H, I xs.length σ G M → Hs G M H → D.nx σ H) : tFor (iEnum K ta) g tb D σ H := by
  refine hta _ ⟨a, xs, rfl, SqL.of (hl 0 σ G0 M0 h0 H S), fun i m σ H => m = xs.length - i ∧ i ≤ xs.length ∧ Nx I i σ H, ⟨xs.length, by simp, Nat.zero_le _, G0, M0, S, h0⟩, ?_⟩
  rintro i m σ H ⟨rfl, hi, G, M, S, h⟩
  have q := hl i σ G M h H S
  by_cases hlt : i < xs.length
  · refine .inr ⟨⟨xs, xs[i], SqL.of q, by simp [hlt]⟩, Nx I (i + 1), fun σ' H' p' => ⟨xs.length - (i + 1), by omega, rfl, hlt, p'⟩, fun x H' y => ?_⟩
    obtain ⟨T, z, rfl, hT, rfl, hz⟩ := y
    have hx := hz xs (SqL.of q)
    exact step i z σ _ M _ T hx (up i σ G _ M h (Same.new (S.fg hT))) (S.newG hT) upd_same
  · have e : i = xs.length := by omega
    subst e
    exact .inl ⟨⟨xs, SqL.of q, Nat.le_refl _⟩, done σ G M H h S⟩
/-- for x in reversed(xs) -/
theorem loopV {ta : TA} {a : Addr} (xs : List V) (I : Nat → L2.St → Hp → Hp → Prop) (S : Hs G0 M0 H) (hta : GvA ta σ H [.ref a]) (h0 : I 0 σ G0 M0)
    (hl : ∀ i σ G M, I i σ G M → ∀ H, Hs G M H → H a = some (.lst xs))
    (step : ∀ i x σ G M H, i < xs.length → xs[xs.length - 1 - i]? = some x → I i σ G M → Hs G M H → g x σ H fun σ2 H2 => tb { D with nx := Nx I (i + 1), ct := Nx I (i + 1), bk := D.nx } σ2 H2)
    (done : ∀ σ G M H, I xs.length σ G M → Hs G M H → D.nx σ H) : tFor (iRev K ta) g tb D σ H := by
  refine hta _ ⟨a, xs, rfl, SqL.of (hl 0 σ G0 M0 h0 H S), fun i m σ H => m = xs.length - i ∧ i ≤ xs.length ∧ Nx I i σ H, ⟨xs.length, by simp, Nat.zero_le _, G0, M0, S, h0⟩, ?_⟩
  rintro i m σ H ⟨rfl, hi, G, M, S, h⟩
  have q := hl i σ G M h H S
  by_cases hlt : i < xs.length
  · refine .inr ⟨⟨hlt, xs, xs[xs.length - 1 - i]'(by omega), SqL.of q, by rw [List.getElem?_eq_getElem]⟩, Nx I (i + 1), fun σ' H' p' => ⟨xs.length - (i + 1), by omega, rfl, hlt, p'⟩, fun x H' y => ?_⟩
    obtain ⟨e, hz⟩ := y
    subst e
    exact step i x σ G M _ hlt (hz xs (SqL.of q)) h S
  · have e : i = xs.length := by omega
    subst e
    exact .inl ⟨Nat.le_refl _, done σ G M H h S⟩
end
/-! comprehensions -/
section
variable {K : PySem.W.Frag} {g : TG} {tt : TT} {te tl : TE} {vs : List Nat} {σ : L2.St} {H1 G0 M0 : Hp} {Dl : Addr} {Qd : Hp → Prop} {ta : TA}
/-- ahead of turn i: what stays, what may change (the new list not among it), what the list holds -/
def Nc (Dl : Addr) (I : Nat → Hp → Hp → List V → Prop) (i : Nat) : Hp → Prop := fun H => ∃ G M acc, Hs G M H ∧ M Dl = some (.lst acc) ∧ I i G (del M Dl) acc
theorem nc_start {I : Nat → Hp → Hp → List V → Prop} (S : Hs G0 M0 H1) (hD : H1 Dl = none) (h0 : I 0 G0 M0 []) : Nc Dl I 0 (upd H1 Dl (.lst [])) := by
  refine ⟨G0, upd M0 Dl (.lst []), [], S.newM hD, upd_same, ?_⟩
  have e : del (upd M0 Dl (.lst [])) Dl = M0 := by
    funext b
    by_cases hb : b = Dl
    · subst hb; rw [del_same]; exact (S.fm hD).symm
    · rw [del_ne hb, upd_ne hb]
  rw [e]
  exact h0
theorem nc_push {I : Nat → Hp → Hp → List V → Prop} {i : Nat} {G M H : Hp} {acc : List V} {y : V} (S : Hs G M H) (hm : M Dl = some (.lst acc)) (h : I i G (del M Dl) (acc ++ [y])) : Nc Dl I i (upd H Dl (.lst (acc ++ [y]))) := by
  refine ⟨G, upd M Dl (.lst (acc ++ [y])), _, S.mut hm, upd_same, ?_⟩
  have e : del (upd M Dl (.lst (acc ++ [y]))) Dl = del M Dl := by
    funext b
    by_cases hb : b = Dl
    · subst hb; rw [del_same, del_same]
    · rw [del_ne hb, del_ne hb, upd_ne hb]
  rw [e]
  exact h
theorem nc_end {G M H : Hp} {acc : List V} (S : Hs G M H) (hm : M Dl = some (.lst acc)) : ∃ G1, Same G G1 ∧ Hs G1 (del M Dl) H ∧ G1 Dl = some (.lst acc) := S.close hm
/-- what the step of a comprehension is to reach -/
def StepC (g : TG) (tt : TT) (te : TE) (vs : List Nat) (σ : L2.St) (D : Addr) (I : Nat → Hp → Hp → List V → Prop) (i : Nat) (x : V) (H : Hp) : Prop :=
  g x (wipe σ vs) H fun σ2 H2 => wipe σ2 vs = wipe σ vs ∧ tt σ2 H2 fun b H3 =>
    if b = true then te σ2 H3 fun y H4 => ∃ acc, H4 D = some (.lst acc) ∧ acc.length < sizeLine ∧ Nc D I (i + 1) (upd H4 D (.lst (acc ++ [y]))) else Nc D I (i + 1) H3
/-- the loop of a comprehension over a list or a tuple at a, in two-part heaps -/
theorem leafT {Q : VK} {a : Addr} {xs : List V} (I : Nat → Hp → Hp → List V → Prop) (S : Hs G0 M0 H1) (htl : Gv tl σ H1 (.ref a)) (h0 : I 0 G0 M0 [])
    (hsrc : ∀ i D G M H acc, Hs G M H → M D = some (.lst acc) → I i G (del M D) acc → H a = some (.tup xs)) (ha : H1 a = some (.tup xs))
    (step : ∀ i D x G M H acc, xs[i]? = some x → Hs G M H → M D = some (.lst acc) → I i G (del M D) acc → StepC g tt te vs σ D I i x H)
    (done : ∀ p G M acc H G1, I xs.length G M acc → Same G G1 → Hs G1 M H → G1 p = some (.lst acc) → Q (.ref p) H) :
    tLc (iTup K tl) g tt te vs σ H1 Q := by
  refine htl _ ⟨a, rfl, ⟨xs, SqT.of ha⟩, fun D hD => ?_⟩
  refine lc_tup (K := K) (xs := xs) (Nc D I) (nc_start S hD h0) (fun i H _ ⟨G, M, acc, S, hm, h⟩ => SqT.of (hsrc i D G M H acc S hm h)) (fun i x H hx ⟨G, M, acc, S, hm, h⟩ => step i D x G M H acc hx S hm h) fun H ⟨G, M, acc, S, hm, h⟩ => ?_
  obtain ⟨G1, E, S1, e⟩ := nc_end S hm
  exact done D G (del M D) acc H G1 h E S1 e
theorem leafL {Q : VK} {a : Addr} {xs : List V} (I : Nat → Hp → Hp → List V → Prop) (S : Hs G0 M0 H1) (htl : Gv tl σ H1 (.ref a)) (h0 : I 0 G0 M0 [])
    (hsrc : ∀ i D G M H acc, Hs G M H → M D = some (.lst acc) → I i G (del M D) acc → H a = some (.lst xs)) (ha : H1 a = some (.lst xs))
    (step : ∀ i D x G M H acc, xs[i]? = some x → Hs G M H → M D = some (.lst acc) → I i G (del M D) acc → StepC g tt te vs σ D I i x H)
    (done : ∀ p G M acc H G1, I xs.length G M acc → Same G G1 → Hs G1 M H → G1 p = some (.lst acc) → Q (.ref p) H) :
    tLc (iList K tl) g tt te vs σ H1 Q := by
  refine htl _ ⟨a, rfl, ⟨xs, SqL.of ha⟩, fun D hD => ?_⟩
  refine lc_list (K := K) (xs := xs) (Nc D I) (nc_start S hD h0) (fun i H _ ⟨G, M, acc, S, hm, h⟩ => SqL.of (hsrc i D G M H acc S hm h)) (fun i x H hx ⟨G, M, acc, S, hm, h⟩ => step i D x G M H acc hx S hm h) fun H ⟨G, M, acc, S, hm, h⟩ => ?_
  obtain ⟨G1, E, S1, e⟩ := nc_end S hm
  exact done D G (del M D) acc H G1 h E S1 e
theorem leafR {Q : VK} {n : Nat} (I : Nat → Hp → Hp → List V → Prop) (S : Hs G0 M0 H1) (hta : GvA ta σ H1 [.int (n : Int)]) (hn : n < 2 ^ 62) (h0 : I 0 G0 M0 [])
    (step : ∀ i D G M H acc, i < n → Hs G M H → M D = some (.lst acc) → I i G (del M D) acc → StepC g tt te vs σ D I i (.int ((i : Nat) : Int)) H)
    (done : ∀ p G M acc H G1, I n G M acc → Same G G1 → Hs G1 M H → G1 p = some (.lst acc) → Q (.ref p) H) :
    tLc (iRng1 ta) g tt te vs σ H1 Q := by
  refine hta _ ⟨n, rfl, by omega, by omega, fun D hD => ?_⟩
  have e : ((n : Int)).toNat = n := by simp
  rw [e]
  refine lc_range (Nc D I) (nc_start S hD h0) (fun i H hi ⟨G, M, acc, S, hm, h⟩ => ?_) fun H ⟨G, M, acc, S, hm, h⟩ => ?_
  · have e2 : (0 : Int) + (i : Nat) = ((i : Nat) : Int) := by omega
    rw [e2]
    exact step i D G M H acc hi S hm h
  · obtain ⟨G1, E, S1, e⟩ := nc_end S hm
    exact done D G (del M D) acc H G1 h E S1 e
/-- item by item, nothing that stood is changed: the invariant -/
def Im {α : Type} (R : α → V → Hp → Prop) (l : List (Option α)) (G0 M0 : Hp) : Nat → Hp → Hp → List V → Prop := fun i G M acc => Same G0 G ∧ (∀ b, M b = M0 b) ∧ All2 R G ((l.take i).filterMap id) acc
theorem im_start {α : Type} {R : α → V → Hp → Prop} {l : List (Option α)} : Im R l G0 M0 0 G0 M0 [] := ⟨Same.refl _, fun _ => rfl, by simpa using All2.nil⟩
theorem take_push {α : Type} {l : List α} {i : Nat} {x : α} (h : l[i]? = some x) : l.take (i + 1) = l.take i ++ [x] := by
  rw [List.take_add_one, h]
  rfl
/-- one turn: the test's answer, then the item's value -/
theorem step_m {α : Type} {R : α → V → Hp → Prop} (up : Up R) {l : List (Option α)} {i j : Nat} {x : V} {o : Option α} {D : Addr} {G M H : Hp} {acc : List V} (hz : l.length < sizeLine) (ho : l[i]? = some o) (S : Hs G M H) (hm : M D = some (.lst acc)) (h : Im R l G0 M0 i G (del M D) acc)
    (hw : wipe ((wipe σ vs).set j (some x)) vs = wipe σ vs)
    (h1 : ∀ Q' : Bool → Hp → Prop, (∀ G1 H', Same G G1 → Hs G1 M H' → Q' o.isSome H') → tt ((wipe σ vs).set j (some x)) H Q')
    (h2 : ∀ y, o = some y → ∀ G1 H', Same G G1 → Hs G1 M H' → ∀ Q' : VK, (∀ v G2 H2, Same G1 G2 → Hs G2 M H2 → R y v G2 → Q' v H2) → te ((wipe σ vs).set j (some x)) H' Q') :
    StepC (gName j) tt te vs σ D (Im R l G0 M0) i x H := by
  obtain ⟨E0, eM, A⟩ := h
  refine ⟨hw, h1 _ fun G1 H' E1 S1 => ?_⟩
  cases o with
  | none =>
    refine iteF ⟨G1, M, acc, S1, hm, E0.trans E1, eM, ?_⟩
    rw [take_push ho, List.filterMap_append]
    simpa using A.up up E1
  | some y =>
    refine iteT (h2 y rfl G1 H' E1 S1 _ fun v G2 H2 E2 S2 r => ?_)
    have hl : acc.length ≤ l.length := by
      rw [A.len]
      exact Nat.le_trans (List.length_filterMap_le _ _) (by rw [List.length_take]; exact Nat.min_le_right _ _)
    refine ⟨acc, S2.m _ _ hm, Nat.lt_of_le_of_lt hl hz, nc_push S2 hm ⟨E0.trans (E1.trans E2), eM, ?_⟩⟩
    rw [take_push ho, List.filterMap_append]
    simpa using (A.up up (E1.trans E2)).snoc r
theorem done_m {α : Type} {R : α → V → Hp → Prop} (up : Up R) {l : List (Option α)} {Q : VK} {n : Nat} (hn : n = l.length)
    (k : ∀ p acc G H, Same G0 G → Hs G M0 H → G p = some (.lst acc) → All2 R G (l.filterMap id) acc → Q (.ref p) H) :
    ∀ p G M acc H G1, Im R l G0 M0 n G M acc → Same G G1 → Hs G1 M H → G1 p = some (.lst acc) → Q (.ref p) H := by
  rintro p G M acc H G1 ⟨E, eM, A⟩ E1 S e
  refine k p acc G1 H (E.trans E1) (S.eqM fun b => (eM b).symm) e ?_
  rw [hn, List.take_length] at A
  exact A.up up E1
theorem compT {α : Type} {R : α → V → Hp → Prop} (up : Up R) (l : List (Option α)) {Q : VK} {a : Addr} {xs : List V} {j : Nat} (S : Hs G0 M0 H1) (htl : Gv tl σ H1 (.ref a)) (ha : G0 a = some (.tup xs)) (hlen : xs.length = l.length) (hz : l.length < sizeLine)
    (hw : ∀ x, wipe ((wipe σ vs).set j (some x)) vs = wipe σ vs)
    (h1 : ∀ (i : Nat) (x : V) (o : Option α) (G M H : Hp), xs[i]? = some x → l[i]? = some o → Same G0 G → Hs G M H → ∀ Q' : Bool → Hp → Prop, (∀ G1 H', Same G G1 → Hs G1 M H' → Q' o.isSome H') → tt ((wipe σ vs).set j (some x)) H Q')
    (h2 : ∀ (i : Nat) (x : V) (y : α) (G M H : Hp), xs[i]? = some x → l[i]? = some (some y) → Same G0 G → Hs G M H → ∀ Q' : VK, (∀ v G2 H2, Same G G2 → Hs G2 M H2 → R y v G2 → Q' v H2) → te ((wipe σ vs).set j (some x)) H Q')
    (k : ∀ p acc G H, Same G0 G → Hs G M0 H → G p = some (.lst acc) → All2 R G (l.filterMap id) acc → Q (.ref p) H) :
    tLc (iTup K tl) (gName j) tt te vs σ H1 Q :=
  leafT (Im R l G0 M0) S htl im_start (fun i D G M H acc S _ h => S.g _ _ (h.1 _ _ ha)) (S.g _ _ ha)
    (fun i D x G M H acc hx S hm h => by
      have hi : i < l.length := by rw [← hlen]; exact (List.getElem?_eq_some_iff.mp hx).1
      have ho : l[i]? = some l[i] := List.getElem?_eq_getElem hi
      exact step_m up hz ho S hm h (hw x) (h1 i x _ G M H hx ho h.1 S) fun y ey G1 H' E1 S1 => h2 i x y G1 M H' hx (by rw [ho, ey]) (h.1.trans E1) S1)
    (done_m up hlen k)
theorem compL {α : Type} {R : α → V → Hp → Prop} (up : Up R) (l : List (Option α)) {Q : VK} {a : Addr} {xs : List V} {j : Nat} (S : Hs G0 M0 H1) (htl : Gv tl σ H1 (.ref a)) (ha : G0 a = some (.lst xs)) (hlen : xs.length = l.length) (hz : l.length < sizeLine)
    (hw : ∀ x, wipe ((wipe σ vs).set j (some x)) vs = wipe σ vs)
    (h1 : ∀ (i : Nat) (x : V) (o : Option α) (G M H : Hp), xs[i]? = some x → l[i]? = some o → Same G0 G → Hs G M H → ∀ Q' : Bool → Hp → Prop, (∀ G1 H', Same G G1 → Hs G1 M H' → Q' o.isSome H') → tt ((wipe σ vs).set j (some x)) H Q')
    (h2 : ∀ (i : Nat) (x : V) (y : α) (G M H : Hp), xs[i]? = some x → l[i]? = some (some y) → Same G0 G → Hs G M H → ∀ Q' : VK, (∀ v G2 H2, Same G G2 → Hs G2 M H2 → R y v G2 → Q' v H2) → te ((wipe σ vs).set j (some x)) H Q')
    (k : ∀ p acc G H, Same G0 G → Hs G M0 H → G p = some (.lst acc) → All2 R G (l.filterMap id) acc → Q (.ref p) H) :
    tLc (iList K tl) (gName j) tt te vs σ H1 Q :=
  leafL (Im R l G0 M0) S htl im_start (fun i D G M H acc S _ h => S.g _ _ (h.1 _ _ ha)) (S.g _ _ ha)
    (fun i D x G M H acc hx S hm h => by
      have hi : i < l.length := by rw [← hlen]; exact (List.getElem?_eq_some_iff.mp hx).1
      have ho : l[i]? = some l[i] := List.getElem?_eq_getElem hi
      exact step_m up hz ho S hm h (hw x) (h1 i x _ G M H hx ho h.1 S) fun y ey G1 H' E1 S1 => h2 i x y G1 M H' hx (by rw [ho, ey]) (h.1.trans E1) S1)
    (done_m up hlen k)
theorem compR {α : Type} {R : α → V → Hp → Prop} (up : Up R) (l : List (Option α)) {Q : VK} {n j : Nat} (S : Hs G0 M0 H1) (hta : GvA ta σ H1 [.int (n : Int)]) (hn : n < 2 ^ 62) (hlen : n = l.length) (hz : l.length < sizeLine)
    (hw : ∀ x, wipe ((wipe σ vs).set j (some x)) vs = wipe σ vs)
    (h1 : ∀ (i : Nat) (o : Option α) (G M H : Hp), i < n → l[i]? = some o → Same G0 G → Hs G M H → ∀ Q' : Bool → Hp → Prop, (∀ G1 H', Same G G1 → Hs G1 M H' → Q' o.isSome H') → tt ((wipe σ vs).set j (some (.int ((i : Nat) : Int)))) H Q')
    (h2 : ∀ (i : Nat) (y : α) (G M H : Hp), i < n → l[i]? = some (some y) → Same G0 G → Hs G M H → ∀ Q' : VK, (∀ v G2 H2, Same G G2 → Hs G2 M H2 → R y v G2 → Q' v H2) → te ((wipe σ vs).set j (some (.int ((i : Nat) : Int)))) H Q')
    (k : ∀ p acc G H, Same G0 G → Hs G M0 H → G p = some (.lst acc) → All2 R G (l.filterMap id) acc → Q (.ref p) H) :
    tLc (iRng1 ta) (gName j) tt te vs σ H1 Q :=
  leafR (Im R l G0 M0) S hta hn im_start
    (fun i D G M H acc hx S hm h => by
      have hi : i < l.length := by rw [← hlen]; exact hx
      have ho : l[i]? = some l[i] := List.getElem?_eq_getElem hi
      exact step_m up hz ho S hm h (hw _) (h1 i _ G M H hx ho h.1 S) fun y ey G1 H' E1 S1 => h2 i y G1 M H' hx (by rw [ho, ey]) (h.1.trans E1) S1)
    (done_m up hlen k)
/-- no test -/
theorem yes_all {α : Type} {l : List α} {xs : List V} {j : Nat} : ∀ (i : Nat) (x : V) (o : Option α) (G M H : Hp), xs[i]? = some x → (l.map some)[i]? = some o → Same G0 G → Hs G M H →
    ∀ Q' : Bool → Hp → Prop, (∀ G1 H', Same G G1 → Hs G1 M H' → Q' o.isSome H') → tYes ((wipe σ vs).set j (some x)) H Q' := by
  intro i x o G M H _ ho _ S Q' k
  rw [List.getElem?_map] at ho
  cases e : l[i]? with
  | none => rw [e] at ho; cases ho
  | some y =>
    rw [e] at ho
    cases ho
    exact k G H (Same.refl _) S
theorem yes_allR {α : Type} {l : List α} {n j : Nat} : ∀ (i : Nat) (o : Option α) (G M H : Hp), i < n → (l.map some)[i]? = some o → Same G0 G → Hs G M H →
    ∀ Q' : Bool → Hp → Prop, (∀ G1 H', Same G G1 → Hs G1 M H' → Q' o.isSome H') → tYes ((wipe σ vs).set j (some (.int ((i : Nat) : Int)))) H Q' := by
  intro i o G M H _ ho _ S Q' k
  rw [List.getElem?_map] at ho
  cases e : l[i]? with
  | none => rw [e] at ho; cases ho
  | some y =>
    rw [e] at ho
    cases ho
    exact k G H (Same.refl _) S
theorem some_at {α : Type} {l : List α} {i : Nat} {y : α} (h : (l.map some)[i]? = some (some y)) : l[i]? = some y := by
  rw [List.getElem?_map] at h
  cases e : l[i]? with
  | none => rw [e] at h; cases h
  | some z =>
    rw [e] at h
    cases h
    rfl
theorem filt_some {α : Type} (l : List α) : (l.map some).filterMap id = l := by
  induction l with
  | nil => rfl
  | cons a t ih => simp [ih]
theorem compR2 {α : Type} {R : α → V → Hp → Prop} (up : Up R) (l : List (Option α)) {Q : VK} {m n j : Nat} (S : Hs G0 M0 H1) (hta : GvA ta σ H1 [.int (m : Int), .int (n : Int)]) (hm : m < 2 ^ 62) (hn : n < 2 ^ 62) (hlen : n - m = l.length) (hz : l.length < sizeLine)
    (hw : ∀ x, wipe ((wipe σ vs).set j (some x)) vs = wipe σ vs)
    (h1 : ∀ (i : Nat) (o : Option α) (G M H : Hp), i < n - m → l[i]? = some o → Same G0 G → Hs G M H → ∀ Q' : Bool → Hp → Prop, (∀ G1 H', Same G G1 → Hs G1 M H' → Q' o.isSome H') → tt ((wipe σ vs).set j (some (.int ((m + i : Nat) : Int)))) H Q')
    (h2 : ∀ (i : Nat) (y : α) (G M H : Hp), i < n - m → l[i]? = some (some y) → Same G0 G → Hs G M H → ∀ Q' : VK, (∀ v G2 H2, Same G G2 → Hs G2 M H2 → R y v G2 → Q' v H2) → te ((wipe σ vs).set j (some (.int ((m + i : Nat) : Int)))) H Q')
    (k : ∀ p acc G H, Same G0 G → Hs G M0 H → G p = some (.lst acc) → All2 R G (l.filterMap id) acc → Q (.ref p) H) :
    tLc (iRng2 ta) (gName j) tt te vs σ H1 Q := by
  refine hta _ ⟨m, n, rfl, ⟨by omega, by omega, by omega, by omega⟩, fun D hD => ?_⟩
  have e : ((n : Int) - (m : Int)).toNat = n - m := by omega
  rw [e]
  refine lc_range (Nc D (Im R l G0 M0)) (nc_start S hD im_start) (fun i H hi ⟨G, M, acc, S, hm, h⟩ => ?_) fun H ⟨G, M, acc, S, hm, h⟩ => ?_
  · have e2 : (m : Int) + (i : Nat) = ((m + i : Nat) : Int) := by omega
    rw [e2]
    have hi2 : i < l.length := by omega
    have ho : l[i]? = some l[i] := List.getElem?_eq_getElem hi2
    exact step_m up hz ho S hm h (hw _) (h1 i _ G M H hi ho h.1 S) fun y ey G1 H' E1 S1 => h2 i y G1 M H' hi (by rw [ho, ey]) (h.1.trans E1) S1
  · obtain ⟨G1, E, S1, e⟩ := nc_end S hm
    exact done_m up hlen k D G (del M D) acc H G1 h E S1 e
theorem yes_allR2 {α : Type} {l : List α} {m n j : Nat} : ∀ (i : Nat) (o : Option α) (G M H : Hp), i < n - m → (l.map some)[i]? = some o → Same G0 G → Hs G M H →
    ∀ Q' : Bool → Hp → Prop, (∀ G1 H', Same G G1 → Hs G1 M H' → Q' o.isSome H') → tYes ((wipe σ vs).set j (some (.int ((m + i : Nat) : Int)))) H Q' := by
  intro i o G M H _ ho _ S Q' k
  rw [List.getElem?_map] at ho
  cases e : l[i]? with
  | none => rw [e] at ho; cases ho
  | some y =>
    rw [e] at ho
    cases ho
    exact k G H (Same.refl _) S
end
/-! more readings of operations -/
def rB (b : Bool) (v : V) (_ : Hp) : Prop := v = .bl b
theorem up_B : Up rB := fun _ _ _ _ _ h => h
theorem All2.bools {G : Hp} {bs : List Bool} {xs : List V} (h : All2 rB G bs xs) : xs = bs.map V.bl := by
  apply List.ext_getElem?
  intro i
  rw [List.getElem?_map]
  cases e : bs[i]? with
  | none =>
    have := List.getElem?_eq_none_iff.mp e
    exact List.getElem?_eq_none_iff.mpr (by rw [h.len]; exact this)
  | some n =>
    obtain ⟨v, e1, e2⟩ := h.atL e
    rw [e1]
    exact congrArg some e2
section
variable {K : PySem.W.Frag} {H : Hp} {Q : VK} {v : V}
theorem rd_all {p : Addr} {bs : List Bool} (h : H p = some (.lst (bs.map V.bl))) (q : Q (.bl (bs.all id)) H) : rAll K [.ref p] H Q := ⟨p, bs, rfl, SqL.of h, q⟩
theorem rd_sum {p : Addr} {ns : List Int} (h : H p = some (.tup (ns.map V.int)) ∨ H p = some (.lst (ns.map V.int))) (h2 : H p = some (.lst (ns.map V.int))) (q : Q (.int ns.sum) H) : rSum K [.ref p] H Q := ⟨p, ns, rfl, SqL.of h2, q⟩
theorem rd_lsL {p : Addr} {ys : List V} (h : H p = some (.lst ys)) (q : ∀ l, H l = none → Q (.ref l) (upd H l (.lst ys))) : rLsO K [.ref p] H Q := ⟨p, ys, rfl, .inl (SqL.of h), q⟩
theorem rd_lsT {p : Addr} {ys : List V} (h : H p = some (.tup ys)) (q : ∀ l, H l = none → Q (.ref l) (upd H l (.lst ys))) : rLsO K [.ref p] H Q := ⟨p, ys, rfl, .inr (SqT.of h), q⟩
theorem rd_tpL {p : Addr} {ys : List V} (h : H p = some (.lst ys)) (q : ∀ l, H l = none → Q (.ref l) (upd H l (.tup ys))) : rTpO K [.ref p] H Q := ⟨p, ys, rfl, .inl ⟨SqL.of h, q⟩⟩
theorem rd_tpT {p : Addr} {ys : List V} (h : H p = some (.tup ys)) (q : Q (.ref p) H) : rTpO K [.ref p] H Q := ⟨p, ys, rfl, .inr ⟨SqT.of h, q⟩⟩
theorem rd_slL {p : Addr} {ys : List V} {lo hi : Option Int} (h : H p = some (.lst ys)) (q : ∀ l, H l = none → Q (.ref l) (upd H l (.lst (cutV ys lo hi)))) : rSlL K (.ref p) lo hi H Q := ⟨p, ys, rfl, SqL.of h, q⟩
theorem rd_cat {a b : Addr} {xs ys : List V} (h1 : H a = some (.lst xs)) (h2 : H b = some (.lst ys)) (hz : xs.length + ys.length ≤ sizeLine) (q : ∀ p, H p = none → Q (.ref p) (upd H p (.lst (xs ++ ys)))) : rCat (.ref a) (.ref b) H Q := ⟨a, b, xs, ys, rfl, rfl, h1, h2, hz, q⟩
theorem rd_cnt {p : Addr} {ns : List Int} {k : Int} (h : H p = some (.lst (ns.map V.int))) (q : Q (.int (ns.count k : Nat)) H) : rCntI K (.ref p) [.int k] H Q := ⟨p, ns, k, rfl, rfl, SqL.of h, q⟩
variable {G M : Hp} {tas : TA} {σ : L2.St}
/-- new things: kept in G (as they stay), or in M (as they will change) -/
theorem al_tup {xs : List V} (S : Hs G M H) (hta : GvA tas σ H xs) (hz : xs.length ≤ sizeLine) (q : ∀ p G1 H1, Same G G1 → Hs G1 M H1 → G1 p = some (.tup xs) → Q (.ref p) H1) : tTup tas σ H Q :=
  hta _ ⟨hz, fun p hp => q p _ _ (Same.new (S.fg hp)) (S.newG hp) upd_same⟩
theorem al_lst {xs : List V} (S : Hs G M H) (hta : GvA tas σ H xs) (hz : xs.length ≤ sizeLine) (q : ∀ p G1 H1, Same G G1 → Hs G1 M H1 → G1 p = some (.lst xs) → Q (.ref p) H1) : tLst tas σ H Q :=
  hta _ ⟨hz, fun p hp => q p _ _ (Same.new (S.fg hp)) (S.newG hp) upd_same⟩
theorem al_lstM {xs : List V} (S : Hs G M H) (hta : GvA tas σ H xs) (hz : xs.length ≤ sizeLine) (q : ∀ p M1 H1, (∀ b, b ≠ p → M1 b = M b) → Hs G M1 H1 → M1 p = some (.lst xs) → M p = none → G p = none → Q (.ref p) H1) : tLst tas σ H Q :=
  hta _ ⟨hz, fun p hp => q p _ _ (fun b hb => upd_ne hb) (S.newM hp) upd_same (S.fm hp) (S.fg hp)⟩
theorem al_lsL {p : Addr} {ys : List V} (S : Hs G M H) (h : H p = some (.lst ys)) (q : ∀ l G1 H1, Same G G1 → Hs G1 M H1 → G1 l = some (.lst ys) → Q (.ref l) H1) : rLsO K [.ref p] H Q :=
  rd_lsL h fun l hl => q l _ _ (Same.new (S.fg hl)) (S.newG hl) upd_same
theorem al_lsT {p : Addr} {ys : List V} (S : Hs G M H) (h : H p = some (.tup ys)) (q : ∀ l G1 H1, Same G G1 → Hs G1 M H1 → G1 l = some (.lst ys) → Q (.ref l) H1) : rLsO K [.ref p] H Q :=
  rd_lsT h fun l hl => q l _ _ (Same.new (S.fg hl)) (S.newG hl) upd_same
theorem al_lsLM {p : Addr} {ys : List V} (S : Hs G M H) (h : H p = some (.lst ys)) (q : ∀ l M1 H1, (∀ b, b ≠ l → M1 b = M b) → Hs G M1 H1 → M1 l = some (.lst ys) → M l = none → G l = none → Q (.ref l) H1) : rLsO K [.ref p] H Q :=
  rd_lsL h fun l hl => q l _ _ (fun b hb => upd_ne hb) (S.newM hl) upd_same (S.fm hl) (S.fg hl)
theorem al_lsTM {p : Addr} {ys : List V} (S : Hs G M H) (h : H p = some (.tup ys)) (q : ∀ l M1 H1, (∀ b, b ≠ l → M1 b = M b) → Hs G M1 H1 → M1 l = some (.lst ys) → M l = none → G l = none → Q (.ref l) H1) : rLsO K [.ref p] H Q :=
  rd_lsT h fun l hl => q l _ _ (fun b hb => upd_ne hb) (S.newM hl) upd_same (S.fm hl) (S.fg hl)
theorem al_tpL {p : Addr} {ys : List V} (S : Hs G M H) (h : H p = some (.lst ys)) (q : ∀ l G1 H1, Same G G1 → Hs G1 M H1 → G1 l = some (.tup ys) → Q (.ref l) H1) : rTpO K [.ref p] H Q :=
  rd_tpL h fun l hl => q l _ _ (Same.new (S.fg hl)) (S.newG hl) upd_same
theorem al_slL {p : Addr} {ys : List V} {lo hi : Option Int} (S : Hs G M H) (h : H p = some (.lst ys)) (q : ∀ l G1 H1, Same G G1 → Hs G1 M H1 → G1 l = some (.lst (cutV ys lo hi)) → Q (.ref l) H1) : rSlL K (.ref p) lo hi H Q :=
  rd_slL h fun l hl => q l _ _ (Same.new (S.fg hl)) (S.newG hl) upd_same
theorem al_cat {a b : Addr} {xs ys : List V} (S : Hs G M H) (h1 : H a = some (.lst xs)) (h2 : H b = some (.lst ys)) (hz : xs.length + ys.length ≤ sizeLine) (q : ∀ l G1 H1, Same G G1 → Hs G1 M H1 → G1 l = some (.lst (xs ++ ys)) → Q (.ref l) H1) : rCat (.ref a) (.ref b) H Q :=
  rd_cat h1 h2 hz fun l hl => q l _ _ (Same.new (S.fg hl)) (S.newG hl) upd_same
theorem al_catT {a b : Addr} {xs ys : List V} (S : Hs G M H) (h1 : G a = some (.tup xs)) (h2 : G b = some (.tup ys)) (hz : xs.length + ys.length ≤ sizeLine) (q : ∀ l G1 H1, Same G G1 → Hs G1 M H1 → G1 l = some (.tup (xs ++ ys)) → Q (.ref l) H1) : rCatA K (.ref a) (.ref b) H Q :=
  ⟨a, b, xs, ys, rfl, rfl, SqT.of (S.g _ _ h1), SqT.of (S.g _ _ h2), hz, fun e => q b G H (Same.refl _) S (by rw [h2, e]; rfl), fun _ e => q a G H (Same.refl _) S (by rw [h1, e, List.append_nil]),
    fun _ _ l hl => q l _ _ (Same.new (S.fg hl)) (S.newG hl) upd_same⟩
theorem al_slA {a : Addr} {xs : List V} {lo hi : Option Int} (S : Hs G M H) (h1 : G a = some (.tup xs)) (q : ∀ l G1 H1, Same G G1 → Hs G1 M H1 → G1 l = some (.tup (cutV xs lo hi)) → Q (.ref l) H1) : rSlA K (.ref a) lo hi H Q :=
  ⟨a, xs, rfl, SqT.of (S.g _ _ h1), fun e => q a G H (Same.refl _) S (by
      rw [h1]
      unfold cutV
      rw [e.1, e.2]
      simp), fun _ l hl => q l _ _ (Same.new (S.fg hl)) (S.newG hl) upd_same⟩
theorem rd_appM {a : Addr} {xs : List V} {y : V} (S : Hs G M H) (h : M a = some (.lst xs)) (hz : xs.length < sizeLine) (q : ∀ M1 H1, (∀ b, b ≠ a → M1 b = M b) → Hs G M1 H1 → M1 a = some (.lst (xs ++ [y])) → Q .non H1) : rAppend (.ref a) [y] H Q :=
  rd_append (S.m _ _ h) hz (q _ _ (fun b hb => upd_ne hb) (S.mut h) upd_same)
theorem rd_setM {a : Addr} {xs : List V} {y : V} {k : Int} {j : Nat} {R : Hp → Prop} (S : Hs G M H) (h : M a = some (.lst xs)) (e : ixN xs.length k = some j) (q : ∀ M1 H1, (∀ b, b ≠ a → M1 b = M b) → Hs G M1 H1 → M1 a = some (.lst (xs.set j y)) → R H1) : rSetL (.ref a) (.int k) y H R :=
  rd_setL (S.m _ _ h) e (q _ _ (fun b hb => upd_ne hb) (S.mut h) upd_same)
theorem rd_lstRg {n : Nat} {te : TE} (S : Hs G M H) (hte : Gv te σ H (.int (n : Int))) (hn : n ≤ 100000) (q : ∀ l G1 H1, Same G G1 → Hs G1 M H1 → G1 l = some (.lst ((List.range n).map fun (i : Nat) => V.int ((i : Nat) : Int))) → Q (.ref l) H1) : tLstRg (tRg1 te) σ H Q := by
  refine hte _ ⟨n, rfl, RgOk.of_le (by omega) (by omega) (by omega) (by omega), fun l hl => ?_⟩
  have e : rgV 0 (n : Int) = (List.range n).map fun (i : Nat) => V.int ((i : Nat) : Int) := by
    unfold rgV
    have e1 : ((n : Int) - 0).toNat = n := by omega
    rw [e1]
    refine List.map_congr_left fun i _ => ?_
    simp
  rw [e]
  exact q l _ _ (Same.new (S.fg hl)) (S.newG hl) upd_same
/-! sources that are evaluated ahead -/
def cE (x : V) : TE := fun _ H Q => Q x H
def cA (vs : List V) : TA := fun _ H Q => Q vs H
theorem gv_cE {x : V} : Gv (cE x) σ H x := fun _ q => q
theorem gv_cA {vs : List V} : GvA (cA vs) σ H vs := fun _ q => q
variable {g : TG} {tb : TS} {D : Ends} {tl te : TE} {ta : TA} {tt : TT} {vl : List Nat}
theorem rd_fL (h : tl σ H fun x H1 => tFor (iList K (cE x)) g tb D σ H1) : tFor (iList K tl) g tb D σ H := h
theorem rd_fT (h : tl σ H fun x H1 => tFor (iTup K (cE x)) g tb D σ H1) : tFor (iTup K tl) g tb D σ H := h
theorem rd_fR (h : ta σ H fun vs H1 => tFor (iRng1 (cA vs)) g tb D σ H1) : tFor (iRng1 ta) g tb D σ H := h
theorem rd_fE (h : ta σ H fun vs H1 => tFor (iEnum K (cA vs)) g tb D σ H1) : tFor (iEnum K ta) g tb D σ H := h
theorem rd_fV (h : ta σ H fun vs H1 => tFor (iRev K (cA vs)) g tb D σ H1) : tFor (iRev K ta) g tb D σ H := h
theorem rd_cL (h : tl σ H fun x H1 => tLc (iList K (cE x)) g tt te vl σ H1 Q) : tLc (iList K tl) g tt te vl σ H Q := h
theorem rd_cT (h : tl σ H fun x H1 => tLc (iTup K (cE x)) g tt te vl σ H1 Q) : tLc (iTup K tl) g tt te vl σ H Q := h
theorem rd_cR (h : ta σ H fun vs H1 => tLc (iRng1 (cA vs)) g tt te vl σ H1 Q) : tLc (iRng1 ta) g tt te vl σ H Q := h
theorem inV_ints (i : Int) : ∀ ns : List Int, inV (.int i) (ns.map V.int) = decide (i ∈ ns)
  | [] => rfl
  | n :: ns => by
    have ih := inV_ints i ns
    unfold inV at ih ⊢
    rw [List.map_cons, List.any_cons, ih]
    show ((n == i) || _) = _
    by_cases h : n = i
    · subst h; simp
    · have h2 : ¬ i = n := fun z => h z.symm
      have h3 : (n == i) = false := beq_eq_false_iff_ne.mpr h
      rw [h3]
      simp [h2]
theorem flat_ints : ∀ ns : List Int, (ns.map V.int).all flatV = true
  | [] => rfl
  | n :: ns => by rw [List.map_cons, List.all_cons, flat_ints ns]; rfl
theorem ite_bf {x y : Bool} (q : Q (.bl y) H) : Q (.bl (if false = true then x else y)) H := by
  have e : (if false = true then x else y) = y := if_neg Bool.false_ne_true
  rw [e]
  exact q
theorem ite_bt {x y : Bool} (q : Q (.bl x) H) : Q (.bl (if true = true then x else y)) H := by
  have e : (if true = true then x else y) = x := if_pos rfl
  rw [e]
  exact q
theorem rd_inI {p : Addr} {ns : List Int} {i : Int} (h : H p = some (.tup (ns.map V.int)) ∨ H p = some (.lst (ns.map V.int))) (q : Q (.bl (decide (i ∈ ns))) H) : rIn K false (.int i) (.ref p) H Q :=
  ⟨p, ns.map V.int, rfl, h.elim (fun h => .inr (SqT.of h)) (fun h => .inl (SqL.of h)), rfl, flat_ints ns, ite_bf (by rw [inV_ints]; exact q)⟩
theorem rd_niI {p : Addr} {ns : List Int} {i : Int} (h : H p = some (.tup (ns.map V.int)) ∨ H p = some (.lst (ns.map V.int))) (q : Q (.bl (!decide (i ∈ ns))) H) : rIn K true (.int i) (.ref p) H Q :=
  ⟨p, ns.map V.int, rfl, h.elim (fun h => .inr (SqT.of h)) (fun h => .inl (SqL.of h)), rfl, flat_ints ns, ite_bt (by rw [inV_ints]; exact q)⟩
end
end N
/-! NU: comprehensions of two for clauses -/
namespace N
open PySem L2
/-- J walks the values ys wherever G stands -/
def Jys (J : It) (ys : List V) (G : Hp) : Prop := ∀ G2 M2 H, Same G G2 → Hs G2 M2 H → ∀ j : Nat,
  (ys.length ≤ j → J.stop j H) ∧ (j < ys.length → J.go j H ∧ ∀ x H', J.yld j H x H' → H' = H ∧ ys[j]? = some x)
def Wk (wi : TI) (σ : L2.St) (G M H : Hp) (ys : List V) : Prop := ∀ R : It → Hp → Prop, (∀ J G' H', Same G G' → Hs G' M H' → Jys J ys G' → R J H') → wi σ H R
section
variable {K : PySem.W.Frag} {σ : L2.St} {G M H : Hp} {tl : TE} {ta : TA}
theorem jys_T {a : Addr} {ys : List V} (h : G a = some (.tup ys)) : Jys (Itt K a) ys G := fun G2 M2 H E S j =>
  ⟨fun hj => ⟨ys, SqT.of (S.g _ _ (E _ _ h)), hj⟩, fun hj => ⟨⟨ys, ys[j], SqT.of (S.g _ _ (E _ _ h)), List.getElem?_eq_getElem hj⟩,
    fun x H' y => ⟨y.1, y.2 ys (SqT.of (S.g _ _ (E _ _ h)))⟩⟩⟩
theorem jys_L {a : Addr} {ys : List V} (h : G a = some (.lst ys)) : Jys (Itl K a) ys G := fun G2 M2 H E S j =>
  ⟨fun hj => ⟨ys, SqL.of (S.g _ _ (E _ _ h)), hj⟩, fun hj => ⟨⟨ys, ys[j], SqL.of (S.g _ _ (E _ _ h)), List.getElem?_eq_getElem hj⟩,
    fun x H' y => ⟨y.1, y.2 ys (SqL.of (S.g _ _ (E _ _ h)))⟩⟩⟩
theorem jys_R {m n : Nat} : Jys (Itr (m : Int) n) ((List.range n).map fun (i : Nat) => V.int ((m + i : Nat) : Int)) G := fun G2 M2 H E S j => by
  refine ⟨fun hj => (show n ≤ j by simpa using hj), fun hj => ⟨(show j < n by simpa using hj), fun x H' y => ⟨y.1, ?_⟩⟩⟩
  have hj2 : j < n := by simpa using hj
  rw [List.getElem?_map, List.getElem?_range hj2, y.2]
  simp
theorem wk_L {a : Addr} {ys : List V} (S : Hs G M H) (htl : Gv tl σ H (.ref a)) (h : G a = some (.lst ys)) : Wk (iList K tl) σ G M H ys := fun R k =>
  htl _ ⟨a, rfl, ⟨ys, SqL.of (S.g _ _ h)⟩, k _ G H (Same.refl _) S (jys_L h)⟩
theorem wk_R1 {n : Nat} (S : Hs G M H) (hta : GvA ta σ H [.int (n : Int)]) (hn : n < 2 ^ 62) : Wk (iRng1 ta) σ G M H ((List.range n).map fun (i : Nat) => V.int ((0 + i : Nat) : Int)) := fun R k =>
  hta _ ⟨n, rfl, by omega, by omega, by
    have e : ((n : Int)).toNat = n := by simp
    rw [e]
    exact k _ G H (Same.refl _) S jys_R⟩
theorem wk_R2 {m n : Nat} (S : Hs G M H) (hta : GvA ta σ H [.int (m : Int), .int (n : Int)]) (hm : m < 2 ^ 62) (hn : n < 2 ^ 62) : Wk (iRng2 ta) σ G M H ((List.range (n - m)).map fun (i : Nat) => V.int ((m + i : Nat) : Int)) := fun R k =>
  hta _ ⟨m, n, rfl, ⟨by omega, by omega, by omega, by omega⟩, by
    have e : ((n : Int) - (m : Int)).toNat = n - m := by omega
    rw [e]
    exact k _ G H (Same.refl _) S jys_R⟩
end
section
variable {K : PySem.W.Frag} {te : TE} {vs vs1 : List Nat} {σ : L2.St} {H1 G0 M0 : Hp} {wi wi1 : TI}
theorem yes_go {σ : L2.St} {H : Hp} {b : Bool → Hp → Prop} (h : b true H) : tYes σ H b := h
/-- what the list holds ahead of turn i of the outer, turn k of the inner walk -/
def Im2 {α : Type} (R : α → V → Hp → Prop) (l : List (List α)) (li : List α) (G0 M0 : Hp) (i k : Nat) : Hp → Hp → List V → Prop :=
  fun G M acc => Same G0 G ∧ (∀ b, M b = M0 b) ∧ All2 R G ((l.take i).flatten ++ li.take k) acc
theorem comp2 {α : Type} {R : α → V → Hp → Prop} (up : Up R) (l : List (List α)) {Q : VK} {xs : List V} {j j1 : Nat} (S0 : Hs G0 M0 H1) (ho : Wk wi σ G0 M0 H1 xs) (hlen : xs.length = l.length) (hz : l.flatten.length < sizeLine)
    (hw : ∀ x, wipe ((wipe σ vs).set j (some x)) vs = wipe σ vs)
    (hw1 : ∀ x y, wipe ((wipe ((wipe σ vs).set j (some x)) vs1).set j1 (some y)) vs1 = wipe ((wipe σ vs).set j (some x)) vs1)
    (inner : ∀ (i : Nat) (x : V) (li : List α) (G M H : Hp), xs[i]? = some x → l[i]? = some li → Same G0 G → Hs G M H → ∃ ys : List V, ys.length = li.length ∧ Wk wi1 ((wipe σ vs).set j (some x)) G M H ys ∧
      ∀ (jj : Nat) (y : V) (z : α) (G M H : Hp), ys[jj]? = some y → li[jj]? = some z → Same G0 G → Hs G M H →
        ∀ Q' : VK, (∀ v G2 H2, Same G G2 → Hs G2 M H2 → R z v G2 → Q' v H2) → te ((wipe ((wipe σ vs).set j (some x)) vs1).set j1 (some y)) H Q')
    (k : ∀ p acc G H, Same G0 G → Hs G M0 H → G p = some (.lst acc) → All2 R G l.flatten acc → Q (.ref p) H) :
    tLc2 wi (gName j) tYes wi1 (gName j1) tYes te vs vs1 σ H1 Q := by
  refine ho _ fun J Gj Hj Ej Sj hJ D hD => ?_
  have cnt : ∀ i li, l[i]? = some li → (l.take i).flatten.length + li.length ≤ l.flatten.length := fun i li hi => by
    have e : l.flatten = (l.take i).flatten ++ (li ++ (l.drop (i + 1)).flatten) := by
      have h1 : l = l.take i ++ li :: l.drop (i + 1) := by
        obtain ⟨h3, h4⟩ := List.getElem?_eq_some_iff.mp hi
        rw [← h4, ← List.drop_eq_getElem_cons, List.take_append_drop]
      conv => lhs; rw [h1]
      simp
    rw [e, List.length_append, List.length_append]
    omega
  refine ⟨fun i m H => m = xs.length - i ∧ i ≤ xs.length ∧ Nc D (fun _ G M acc => Same Gj G ∧ Im2 R l [] G0 M0 i 0 G M acc) 0 H, ⟨xs.length, by simp, Nat.zero_le _, nc_start Sj hD ⟨Same.refl _, Ej, fun _ => rfl, by simpa using All2.nil⟩⟩, ?_⟩
  rintro i m H ⟨rfl, hi, G, M, acc, S, hm, EJ, E, eM, A⟩
  have hj := hJ G M H EJ S i
  by_cases hlt : i < xs.length
  · have hil : i < l.length := by omega
    have hli : l[i]? = some l[i] := List.getElem?_eq_getElem hil
    obtain ⟨go, yl⟩ := hj.2 hlt
    refine .inr ⟨go, Nc D (fun _ G M acc => Same Gj G ∧ Im2 R l [] G0 M0 (i + 1) 0 G M acc) 0, fun H' p' => ⟨xs.length - (i + 1), by omega, rfl, hlt, p'⟩, fun x H' y => ?_⟩
    obtain ⟨rfl, hx⟩ := yl x H' y
    refine ⟨hw x, yes_go (iteT ?_)⟩
    obtain ⟨ys, hyl, hwk, hte⟩ := inner i x l[i] G M H' hx hli E S
    refine hwk _ fun J1 G1 H1' E1 S1 hJ1 => ?_
    refine ⟨fun jj m H => m = ys.length - jj ∧ jj ≤ ys.length ∧ Nc D (fun _ G M acc => Same G1 G ∧ Im2 R l l[i] G0 M0 i jj G M acc) 0 H, ⟨ys.length, by simp, Nat.zero_le _, G1, M, acc, S1, hm, Same.refl _, E.trans E1, eM, ?_⟩, ?_⟩
    · have A2 := A.up up E1
      simpa using A2
    · rintro jj m H2 ⟨rfl, hjj, G2, M2, acc2, S2, hm2, EJ2, E2, eM2, A2⟩
      have hj1 := hJ1 G2 M2 H2 EJ2 S2 jj
      by_cases hlt2 : jj < ys.length
      · obtain ⟨go1, yl1⟩ := hj1.2 hlt2
        refine .inr ⟨go1, Nc D (fun _ G M acc => Same G1 G ∧ Im2 R l l[i] G0 M0 i (jj + 1) G M acc) 0, fun H' p' => ⟨ys.length - (jj + 1), by omega, rfl, hlt2, p'⟩, fun y H3 hy => ?_⟩
        obtain ⟨rfl, hy2⟩ := yl1 y H3 hy
        have hz1 : l[i][jj]? = some (l[i][jj]'(by omega)) := List.getElem?_eq_getElem (by omega)
        refine ⟨hw1 x y, yes_go (iteT (hte jj y _ G2 M2 H3 hy2 hz1 E2 S2 _ fun v G3 H4 E3 S3 r => ?_))⟩
        have hal : acc2.length < sizeLine := by
          rw [A2.len, List.length_append, List.length_take]
          have := cnt i l[i] hli
          omega
        refine ⟨acc2, S3.m _ _ hm2, hal, nc_push S3 hm2 ⟨EJ2.trans E3, E2.trans E3, eM2, ?_⟩⟩
        rw [take_push hz1, ← List.append_assoc]
        exact (A2.up up E3).snoc r
      · have e : jj = ys.length := by omega
        subst e
        refine .inl ⟨hj1.1 (Nat.le_refl _), G2, M2, acc2, S2, hm2, EJ.trans (E1.trans EJ2), E2, eM2, ?_⟩
        rw [hyl, List.take_length] at A2
        have e3 : (List.take (i + 1) l).flatten = (List.take i l).flatten ++ l[i] := by
          rw [take_push hli, List.flatten_append, List.flatten_singleton]
        rw [e3]
        simpa using A2
  · have e : i = xs.length := by omega
    subst e
    obtain ⟨G1, E1, S1, eD⟩ := nc_end S hm
    refine .inl ⟨hj.1 (Nat.le_refl _), k D acc G1 H (E.trans E1) (S1.eqM fun b => (eM b).symm) eD ?_⟩
    rw [hlen, List.take_length] at A
    simpa using A.up up E1
end
end N
/-! NM: what the defs compute -/
namespace N
abbrev Row := List Int
abbrev Cp := Int × Int
abbrev Ent := Int × Row
/-- a state and what covers where it leads -/
abbrev Pt := List Row × List Ent
abbrev Lv := List Pt
def noughtsM (r : Row) : Nat := ((r.map fun d => if d = 0 then some d else none).filterMap id).length
def sortedM (r : Row) : Bool := (List.range (r.length - 1)).all fun k => decide (r.getD k 0 ≤ r.getD (k + 1) 0)
def plainM : Nat → List Row
  | 0 => [[]]
  | n + 1 => (plainM n).flatMap fun r => [r ++ [0], r ++ [1]]
def isPlain (w : Int) (r : Row) : Prop := (r.length : Int) = w ∧ ∀ x ∈ r, x = 0 ∨ x = 1
def cmpM (r : Row) (p : Cp) : Row :=
  if r.getD p.2.toNat 0 < r.getD p.1.toNat 0 then (r.set p.1.toNat (r.getD p.2.toNat 0)).set p.2.toNat (r.getD p.1.toNat 0) else r
def passedM (r : Row) (cs : List Cp) : Row := cs.foldl cmpM r
def CpIn (n : Nat) (p : Cp) : Prop := 0 ≤ p.1 ∧ p.1 < n ∧ 0 ≤ p.2 ∧ p.2 < n
def renM (r names : Row) : Nat → Row
  | 0 => r
  | k + 1 => (renM r names k).set (names.getD k 0).toNat (r.getD k 0)
def renamedM (r names : Row) : Row := renM r names r.length
def scM (w : Nat) : List Cp := (List.range w).flatMap fun i => (List.range (w - (i + 1))).map fun (j : Nat) => ((i : Int), ((i + 1 + j : Nat) : Int))
def apartM (c : Cp) (l : List Cp) : Bool := l.all fun p => !(decide (p.1 ∈ [c.1, c.2]) || decide (p.2 ∈ [c.1, c.2]))
def slM (w : Nat) : List (List Cp) := (scM w).reverse.foldl (fun found c => [[c]] ++ ((found.filter (apartM c ·)).map (c :: ·)) ++ found) []
def countsM (s : List Row) : List Int := s.map fun r => (noughtsM r : Int)
def unsettledM (s : List Row) : Prop := ∃ c ∈ countsM s, 1 < (countsM s).count c
theorem cmpM_len (r : Row) (p : Cp) : (cmpM r p).length = r.length := by
  unfold cmpM
  split <;> simp
theorem passedM_len : ∀ (cs : List Cp) (r : Row), (passedM r cs).length = r.length
  | [], _ => rfl
  | c :: cs, r => (passedM_len cs (cmpM r c)).trans (cmpM_len r c)
theorem renM_len (r names : Row) : ∀ k, (renM r names k).length = r.length
  | 0 => rfl
  | k + 1 => by rw [renM, List.length_set, renM_len r names k]
theorem renamedM_len (r names : Row) : (renamedM r names).length = r.length := renM_len r names _
theorem plainM_len : ∀ n, (plainM n).length = 2 ^ n
  | 0 => rfl
  | n + 1 => by
    have ih := plainM_len n
    show ((plainM n).flatMap fun r => [r ++ [0], r ++ [1]]).length = 2 ^ (n + 1)
    rw [List.length_flatMap]
    have e : (plainM n).map (fun r : Row => [r ++ [(0 : Int)], r ++ [1]].length) = List.replicate (plainM n).length 2 := by
      rw [List.eq_replicate_iff]
      simp
    rw [e, List.sum_replicate_nat, ih, Nat.pow_succ]
theorem plainM_row : ∀ n, ∀ r ∈ plainM n, r.length = n
  | 0, r, h => by simp [plainM] at h; rw [h]; rfl
  | n + 1, r, h => by
    have h2 : r ∈ (plainM n).flatMap fun r => [r ++ [0], r ++ [1]] := h
    obtain ⟨q, hq, hr⟩ := List.mem_flatMap.mp h2
    have ih := plainM_row n q hq
    simp at hr
    rcases hr with e | e <;> rw [e] <;> simp [ih]
theorem plainM_succ (n : Nat) : plainM (n + 1) = ((plainM n).map fun r => [r ++ [0], r ++ [1]]).flatten := by
  show (plainM n).flatMap (fun r => [r ++ [0], r ++ [1]]) = _
  rw [List.flatMap_def]
/-- ascending as tuples are compared -/
def ltR : Row → Row → Bool
  | [], [] => false
  | [], _ :: _ => true
  | _ :: _, [] => false
  | x :: xs, y :: ys => if x = y then ltR xs ys else decide (x < y)
theorem ltR_trans : ∀ a b c : Row, ltR a b = true → ltR b c = true → ltR a c = true
  | [], [], [], _, h2 => by simp [ltR] at h2
  | [], _ :: _, [], _, h2 => by simp [ltR] at h2
  | [], _, z :: zs, _, _ => by simp [ltR]
  | _ :: _, [], _, h1, _ => by simp [ltR] at h1
  | _ :: _, _ :: _, [], _, h2 => by simp [ltR] at h2
  | x :: xs, y :: ys, z :: zs, h1, h2 => by
    simp only [ltR] at h1 h2 ⊢
    by_cases e1 : x = y
    · subst e1
      by_cases e2 : x = z
      · subst e2
        simp at h1 h2 ⊢
        exact ltR_trans xs ys zs h1 h2
      · simp [e2] at h2 ⊢
        exact h2
    · simp [e1] at h1
      by_cases e2 : y = z
      · subst e2
        simp [e1]
        exact h1
      · simp [e2] at h2
        have e3 : x ≠ z := by omega
        simp [e3]
        omega
theorem ltR_irrefl : ∀ a : Row, ltR a a = false
  | [] => rfl
  | x :: xs => by simp [ltR, ltR_irrefl xs]
def StOk (w : Int) (s : List Row) : Prop := (∀ r ∈ s, isPlain w r) ∧ s.Pairwise (fun r q => ltR r q = true)
def PtOk (p : Pt) : Prop := p.1.length ≤ 4000 ∧ (∀ r ∈ p.1, r.length ≤ 4000) ∧ ∀ e ∈ p.2, e.2.length ≤ 4000
def LvOk (l : Lv) : Prop := ∀ p ∈ l, PtOk p
def Perm0 (ns : Row) : Prop := ns.Perm ((List.range ns.length).map fun (i : Nat) => ((i : Nat) : Int))
def LeadOk (w : Int) (p : Pt) (fol : Lv) (sts : List (List Cp)) : Prop :=
  p.2.length = sts.length ∧ ∀ (k : Nat) (st : List Cp), sts[k]? = some st → ∃ (idx : Int) (names : Row) (q : Pt), p.2[k]? = some (idx, names) ∧ (names.length : Int) = w ∧ Perm0 names ∧
    0 ≤ idx ∧ fol[idx.toNat]? = some q ∧ ∀ r ∈ q.1, renamedM r names ∈ p.1.map fun r => passedM r st
def NeedOk (n : Nat) (levels : List Lv) (sts : List (List Cp)) : Prop :=
  levels = [] ∨ ((∀ l ∈ levels, l ≠ [] ∧ ∀ p ∈ l, StOk n p.1) ∧ (∃ p, levels[0]? = some [p] ∧ p.1 = plainM n) ∧
    (∀ (k : Nat) (l l' : Lv), levels[k]? = some l → levels[k + 1]? = some l' → ∀ p ∈ l, LeadOk n p l' sts) ∧ ∃ l, levels[levels.length - 1]? = some l ∧ ∀ p ∈ l, unsettledM p.1)
/-- how deep each wire has been used, how many layers there are -/
def dpStep (st : List Int × Nat) (c : Cp) : List Int × Nat :=
  let x := st.1.getD c.1.toNat 0
  let y := st.1.getD c.2.toNat 0
  let l := if y > x then y else x
  ((st.1.set c.1.toNat (l + 1)).set c.2.toNat (l + 1), if l = st.2 then st.2 + 1 else st.2)
def dpM (n : Nat) (cs : List Cp) : List Int × Nat := cs.foldl dpStep (List.replicate n 0, 0)
def depthM (n : Nat) (cs : List Cp) : Nat := (dpM n cs).2
theorem dpM_ok (n : Nat) : ∀ cs : List Cp, (dpM n cs).1.length = n ∧ ∀ x ∈ (dpM n cs).1, 0 ≤ x ∧ x ≤ (dpM n cs).2 := by
  intro cs
  have go : ∀ (cs : List Cp) (st : List Int × Nat), (st.1.length = n ∧ ∀ x ∈ st.1, 0 ≤ x ∧ x ≤ st.2) → ((cs.foldl dpStep st).1.length = n ∧ ∀ x ∈ (cs.foldl dpStep st).1, 0 ≤ x ∧ x ≤ (cs.foldl dpStep st).2) := by
    intro cs
    induction cs with
    | nil => intro st h; exact h
    | cons c t ih =>
      intro st h
      refine ih (dpStep st c) ⟨?_, ?_⟩
      · simp [dpStep, h.1]
      · have hx : ∀ i : Nat, 0 ≤ st.1.getD i 0 ∧ st.1.getD i 0 ≤ st.2 := fun i => by
          rcases Nat.lt_or_ge i st.1.length with hi | hi
          · have : st.1.getD i 0 ∈ st.1 := by
              rw [List.getD_eq_getElem?_getD, List.getElem?_eq_getElem hi]
              exact List.getElem_mem hi
            exact h.2 _ this
          · rw [List.getD_eq_getElem?_getD, List.getElem?_eq_none hi]
            constructor
            · exact Int.le_refl 0
            · exact Int.natCast_nonneg _
        have h1 := hx c.1.toNat
        have h2 := hx c.2.toNat
        intro x hm
        simp only [dpStep] at hm ⊢
        generalize st.1.getD c.1.toNat 0 = p at *
        generalize st.1.getD c.2.toNat 0 = q at *
        have hl : (if q > p then q else p) ≤ st.2 ∧ 0 ≤ (if q > p then q else p) := by split <;> omega
        generalize (if q > p then q else p) = l at *
        have hst : (st.2 : Int) ≤ ((if l = (st.2 : Int) then st.2 + 1 else st.2 : Nat) : Int) := by split <;> omega
        have hl1 : l + 1 ≤ ((if l = (st.2 : Int) then st.2 + 1 else st.2 : Nat) : Int) := by split <;> omega
        rcases List.mem_or_eq_of_mem_set hm with hm | e
        · rcases List.mem_or_eq_of_mem_set hm with hm | e
          · have := h.2 x hm
            omega
          · omega
        · omega
  refine go cs (List.replicate n 0, 0) ⟨by simp, fun x hx => ?_⟩
  have := (List.mem_replicate.mp hx).2
  subst this
  exact ⟨Int.le_refl 0, Int.le_refl 0⟩
def SorterOk (n : Nat) (cs : List Cp) : Prop := (∀ c ∈ cs, 0 ≤ c.1 ∧ c.1 < c.2 ∧ c.2 < n) ∧ ∀ r ∈ plainM n, sortedM (passedM r cs) = true
end N
/-! ND: data of ints, of rows -/
namespace N
open PySem L2
def dT (r : List Int) : PyData := .tuple (r.map PyData.int)
def dL (r : List Int) : PyData := .list (r.map PyData.int)
theorem lay_ints : ∀ ns : List Int, PyData.canLayAll0 (ns.map PyData.int) = true
  | [] => by simp [PyData.canLayAll0]
  | n :: ns => by simp [PyData.canLayAll0, PyData.canLay0, lay_ints ns]
theorem depth_ints : ∀ ns : List Int, PyData.depthAll (ns.map PyData.int) = 0
  | [] => by simp [PyData.depthAll]
  | n :: ns => by simp [PyData.depthAll, PyData.depth, depth_ints ns]
theorem eqv_ints : ∀ ns ms : List Int, PyData.eqvAll (ns.map PyData.int) (ms.map PyData.int) = decide (ns = ms)
  | [], [] => by simp [PyData.eqvAll]
  | [], m :: ms => by simp [PyData.eqvAll]
  | n :: ns, [] => by simp [PyData.eqvAll]
  | n :: ns, m :: ms => by
    simp only [List.map_cons, PyData.eqvAll, PyData.eqv, eqv_ints ns ms]
    by_cases h : n = m <;> by_cases h2 : ns = ms <;> simp [h, h2]
theorem eqv_dT (r q : List Int) : PyData.eqv (dT r) (dT q) = decide (r = q) := by
  simp only [dT, PyData.eqv, eqv_ints]
theorem eqv_dL (r q : List Int) : PyData.eqv (dL r) (dL q) = decide (r = q) := by
  simp only [dL, PyData.eqv, eqv_ints]
theorem lay_dT (r : List Int) : (dT r).canLay0 = true := by simp [dT, PyData.canLay0, lay_ints]
theorem depth_dT (r : List Int) : (dT r).depth = 1 := by simp [dT, PyData.depth, depth_ints]
theorem sh_of {d : PyData} (h : d.canLay0 = true) (h2 : d.depth ≤ 64) : SeqAt.shaped d = true := by
  unfold SeqAt.shaped
  rw [h, decide_eq_true h2]
  rfl
theorem sh_dT (r : List Int) : SeqAt.shaped (dT r) = true := sh_of (lay_dT r) (by rw [depth_dT]; decide)
theorem sh_dL (r : List Int) : SeqAt.shaped (dL r) = true := sh_of (by simp [dL, PyData.canLay0, lay_ints]) (by simp [dL, PyData.depth, depth_ints])
theorem lay_rows : ∀ rs : List (List Int), PyData.canLayAll0 (rs.map dT) = true
  | [] => by simp [PyData.canLayAll0]
  | r :: rs => by simp [PyData.canLayAll0, lay_dT, lay_rows rs]
theorem depth_rows : ∀ rs : List (List Int), PyData.depthAll (rs.map dT) ≤ 1
  | [] => by simp [PyData.depthAll]
  | r :: rs => by
    have := depth_rows rs
    have h2 := depth_dT r
    simp only [List.map_cons, PyData.depthAll]
    omega
theorem sh_rows (rs : List (List Int)) : SeqAt.shaped (.list (rs.map dT)) = true := by
  refine sh_of (by simp [PyData.canLay0, lay_rows]) ?_
  have := depth_rows rs
  simp only [PyData.depth]
  omega
theorem eqv_rows : ∀ rs ss : List (List Int), PyData.eqvAll (rs.map dT) (ss.map dT) = decide (rs = ss)
  | [], [] => by simp [PyData.eqvAll]
  | [], m :: ms => by simp [PyData.eqvAll]
  | n :: ns, [] => by simp [PyData.eqvAll]
  | n :: ns, m :: ms => by
    simp only [List.map_cons, PyData.eqvAll, eqv_dT, eqv_rows ns ms]
    by_cases h : n = m <;> by_cases h2 : ns = ms <;> simp [h, h2]
theorem any_rows (rs : List (List Int)) (r : List Int) : ((rs.map dT).any fun z => PyData.eqv z (dT r)) = decide (r ∈ rs) := by
  rw [List.any_map]
  induction rs with
  | nil => simp
  | cons a t ih =>
    rw [List.any_cons, ih]
    show (PyData.eqv (dT a) (dT r) || _) = _
    rw [eqv_dT]
    by_cases h : a = r
    · simp [h]
    · have h2 : ¬ r = a := fun z => h z.symm
      simp [h, h2]
section
variable {K : PySem.W.Frag} {H G M : Hp}
theorem dp_all : ∀ ns : List Int, DpAll K H (ns.map V.int) (ns.map PyData.int)
  | [] => .nil
  | n :: ns => .cons (.int n) (dp_all ns)
theorem dp_T {a : Addr} {ns : List Int} (h : H a = some (.tup (ns.map V.int))) : Dp K H (.ref a) (dT ns) := .tup (SqT.of h) (dp_all ns)
theorem dp_L {a : Addr} {ns : List Int} (h : H a = some (.lst (ns.map V.int))) : Dp K H (.ref a) (dL ns) := .lst (SqL.of h) (dp_all ns)
theorem dp_rows {rs : List (List Int)} {xs : List V} (S : Hs G M H) (h : All2 rTI G rs xs) : DpAll K H xs (rs.map dT) := by
  have go : ∀ (xs : List V) (rs : List (List Int)), All2 rTI G rs xs → DpAll K H xs (rs.map dT) := by
    intro xs
    induction xs with
    | nil => intro rs h; cases rs with
      | nil => exact .nil
      | cons r t => exact absurd h.len (by simp)
    | cons x xs ih => intro rs h; cases rs with
      | nil => exact absurd h.len (by simp)
      | cons r t =>
        obtain ⟨a, e, f⟩ := h.get 0 r x rfl rfl
        subst e
        refine .cons (dp_T (S.g _ _ f)) (ih t ⟨by simpa using h.len, fun i y v e1 e2 => h.get (i + 1) y v (by simpa using e1) (by simpa using e2)⟩)
  exact go xs rs h
theorem dp_lrows {a : Addr} {rs : List (List Int)} {xs : List V} (S : Hs G M H) (h : G a = some (.lst xs)) (al : All2 rTI G rs xs) : Dp K H (.ref a) (.list (rs.map dT)) := .lst (SqL.of (S.g _ _ h)) (dp_rows S al)
end
theorem int_at {ns : List Int} {i : Nat} {x : V} (h : (ns.map V.int)[i]? = some x) : ∃ n, ns[i]? = some n ∧ x = .int n := by
  rw [List.getElem?_map] at h
  cases e : ns[i]? with
  | none => rw [e] at h; cases h
  | some n =>
    rw [e] at h
    exact ⟨n, rfl, (Option.some.inj h).symm⟩
theorem Hs.drop {G M M1 H : Hp} {D : Addr} {o : HO} (S : Hs G M1 H) (h : M1 D = some o) (e : ∀ b, b ≠ D → M1 b = M b) (n : M D = none) : ∃ G1, Same G G1 ∧ Hs G1 M H ∧ G1 D = some o := by
  obtain ⟨G1, E, S1, f⟩ := S.close h
  refine ⟨G1, E, S1.eqM fun b => ?_, f⟩
  by_cases hb : b = D
  · subst hb; rw [del_same, n]
  · rw [del_ne hb, e b hb]
/-- all that has come to the changing part stays from now on -/
theorem Hs.dropAll {G M M1 H : Hp} (S : Hs G M1 H) (e : ∀ b o, M b = some o → M1 b = some o) : ∃ G1, Same G G1 ∧ Hs G1 M H ∧ ∀ b o, M b = none → H b = some o → G1 b = some o := by
  refine ⟨fun b => if M b = none then H b else none, fun b o h => ?_, ⟨fun b o h => ?_, fun b o h => S.m _ _ (e _ _ h), fun b h1 h2 => ?_, fun b o h => ?_⟩, fun b o h1 h2 => ?_⟩
  · have hm : M b = none := none_of fun u hu => by
      have h3 := S.dj _ _ h
      rw [e _ _ hu] at h3
      cases h3
    show (if M b = none then H b else none) = some o
    rw [if_pos hm]
    exact S.g _ _ h
  · by_cases hm : M b = none
    · have h : (if M b = none then H b else none) = some o := h
      rw [if_pos hm] at h
      exact h
    · have h : (if M b = none then H b else none) = some o := h
      rw [if_neg hm] at h
      cases h
  · have h1 : (if M b = none then H b else none) = none := h1
    rw [if_pos h2] at h1
    exact h1
  · by_cases hm : M b = none
    · exact hm
    · have h : (if M b = none then H b else none) = some o := h
      rw [if_neg hm] at h
      cases h
  · show (if M b = none then H b else none) = some o
    rw [if_pos h1]
    exact h2
end N
open N
local macro_rules | `(tactic| walk_at "hh") => `(tactic| first
  | assumption
  | exact L2.upd_same
  | (refine hs_g (by assumption) ?_; walk_at "hh")
  | (refine hs_m (by assumption) ?_; walk_at "hh")
  | (refine same_up (by assumption) ?_; walk_at "hh"))
local macro_rules | `(tactic| walk_at "r1") => `(tactic| first
  | with_reducible apply rd_seq | with_reducible apply rd_asg | with_reducible apply rd_name | with_reducible apply rd_ret | with_reducible apply rd_drop
  | with_reducible apply rd_next | with_reducible apply rd_if | with_reducible apply rd_iL | with_reducible apply rd_iT
  | with_reducible apply rd_i1 | with_reducible apply rd_i2 | with_reducible apply rd_break
  | ((with_reducible apply rd_var); exact rfl)
  | with_reducible apply rd_c | with_reducible apply rd_op | with_reducible apply rd_un
  | with_reducible apply rd_I0 | ((with_reducible apply rd_I); (first | (show (0 : Int) < _; decide) | assumption))
  | with_reducible apply rd_eqI | with_reducible apply rd_neI | with_reducible apply rd_eqS | with_reducible apply rd_neS
  | with_reducible apply rd_test | with_reducible apply rd_B | with_reducible apply rd_bl
  | with_reducible apply rd_and | with_reducible apply rd_or | with_reducible apply rd_not | with_reducible apply rd_andV
  | with_reducible apply rd_cons | with_reducible apply rd_nil | with_reducible apply rd_CB | with_reducible apply rd_call
  | with_reducible apply rd_BM | with_reducible apply rd_BM0
  | with_reducible apply rd_sl | with_reducible apply rd_np | with_reducible apply rd_part | with_reducible apply rd_in
  | with_reducible apply rd_sub | with_reducible apply rd_chain | with_reducible apply rd_chain3
  | with_reducible apply rd_gcons | with_reducible apply rd_gnil
  | ((with_reducible apply rd_lenL); walk_at "hh") | ((with_reducible apply rd_lenT); walk_at "hh")
  | ((with_reducible apply rd_ixL); walk_at "hh"; (first | assumption | exact L2.atI_nat (by assumption) | exact rfl))
  | ((with_reducible apply rd_ixT); walk_at "hh"; (first | assumption | exact L2.atI_nat (by assumption) | exact rfl))
  | ((with_reducible apply rd_tpT); walk_at "hh")
  | ((with_reducible apply rd_unp); walk_at "hh"; exact rfl)
  | ((with_reducible (show L2.Ends.nx _ _ _)); dsimp only) | ((with_reducible (show L2.Ends.rt _ _ _)); dsimp only))
local macro_rules | `(tactic| walk_at "rd") => `(tactic| repeat (walk_at "r1"))
local macro_rules | `(tactic| walk_at "gv") => `(tactic| (intro R_ q_; walk_at "rd"; exact q_))
/-! NA: the judge's small defs -/
namespace N
open PySem L2
section
variable {P : Program} {w : World} {K : PySem.W.Frag} {mg : Str → Option Value} {base : Heap}
def sp_noughts : Sp := pureSp (fun (r : List Int) vs G => ∃ v, vs = [v] ∧ rTI r v G ∧ r.length ≤ 4000) (fun r v _ => v = .int (noughtsM r))
theorem ok_noughts (T : Bt mg) (F : Dfn K mg "noughts" s_noughts) : Has P w K mg base 1 "noughts" ["row"] sp_noughts := by
  refine F.ok sc_noughts (fun _ _ _ _ _ _ us hl => match us, hl with | [_], _ => rfl) (fun vs H Q E h => by obtain ⟨_, _, _, _, ⟨_, rfl, _⟩, _⟩ := h; rfl) (fun f cdv A outer s H vs Q E hr h => ?_)
  obtain ⟨G, M, r, S, ⟨v, rfl, ⟨a, rfl, ha⟩, hlen⟩, k⟩ := h
  refine ⟨_, (pss_one (ps_ret (pe_callB (lenS K) (by rfl) T.len PySem.boot_len (pa_cons (pe_lc (own := [("digit", 1)]) rfl sc_noughts.nd (piT K (pv 0)) (blkOk_by (N := ["row", "digit"]) (sc := defScope s_noughts) (by decide +kernel)) (fun _ _ _ _ _ => (pg_name (i := 1) sc_noughts.nd rfl (Or.inl rfl))) (fun _ _ _ _ _ => (pts_one (pt_cmpR op_eq (pv 1) pe_int (nomark _)))) (fun _ _ _ _ _ => (pv 1))) pa_nil)))), ?_⟩
  walk_at "rd"
  refine compT up_Z (r.map fun d => if d = 0 then some d else none) S (by walk_at "gv") ha (by simp) (by rw [List.length_map, sizeLine_eq]; omega) (by intro _; rfl) (fun i x o G1 M1 H1 hx ho E1 S1 Q' kk => ?_) (fun i x y G1 M1 H1 hx ho E1 S1 Q' kk => ?_) (fun p acc G1 H1 E1 S1 e al => ?_)
  · rw [List.getElem?_map] at hx ho
    cases er : r[i]? with
    | none => rw [er] at hx; cases hx
    | some d =>
      rw [er] at hx ho
      cases hx
      cases ho
      walk_at "rd"
      have := kk G1 H1 (Same.refl _) S1
      by_cases hd : d = 0 <;> simpa [hd] using this
  · rw [List.getElem?_map] at hx ho
    cases er : r[i]? with
    | none => rw [er] at hx; cases hx
    | some d =>
      rw [er] at hx ho
      cases hx
      walk_at "rd"
      refine kk _ G1 H1 (Same.refl _) S1 ?_
      by_cases hd : d = 0 <;> simp [hd] at ho
      subst ho; simp [rZ, hd]
  · walk_at "rd"
    refine k _ G1 H1 E1 S1 ?_
    rw [al.len]; rfl
def sp_is_sorted : Sp := pureSp (fun (r : List Int) vs G => ∃ v, vs = [v] ∧ rTI r v G ∧ r.length ≤ 4000) (fun r v _ => v = .bl (sortedM r))
theorem ok_is_sorted (T : Bt mg) (F : Dfn K mg "is_sorted" s_is_sorted) : Has P w K mg base 1 "is_sorted" ["row"] sp_is_sorted := by
  refine F.ok sc_is_sorted (fun _ _ _ _ _ _ us hl => match us, hl with | [_], _ => rfl) (fun vs H Q E h => by obtain ⟨_, _, _, _, ⟨_, rfl, _⟩, _⟩ := h; rfl) (fun f cdv A outer s H vs Q E hr h => ?_)
  obtain ⟨G, M, r, S, ⟨v, rfl, ⟨a, rfl, ha⟩, hlen⟩, k⟩ := h
  refine ⟨_, (pss_one (ps_ret (pe_callB (allK K (hc := rfl)) (by rfl) T.all (by decide +kernel) (pa_cons (pe_lc (own := [("k", 1)]) rfl sc_is_sorted.nd (pi_range2 (by rfl) T.range (pa_cons pe_int (pa_cons (pe_callB (lenS K) (by rfl) T.len PySem.boot_len (pa_cons (pv 0) pa_nil)) pa_nil))) (blkOk_by (N := ["row", "k"]) (sc := defScope s_is_sorted) (by decide +kernel)) (fun _ _ _ _ _ => (pg_name (i := 1) sc_is_sorted.nd rfl (Or.inl rfl))) (fun _ _ _ _ _ => pts_nil) (fun _ _ _ _ _ => (pe_cmpR op_le (pe_ix (ixT K) (pv 0) (pe_op op_sub (pv 1) pe_int) (fun _ _ => rfl)) (pe_ix (ixT K) (pv 0) (pv 1) (fun _ _ => rfl)) (nomark _)))) pa_nil)))), ?_⟩
  walk_at "rd"
  have hl : ∀ i, i < r.length - 1 → (r.map V.int)[i]? = some (V.int (r.getD i 0)) ∧ (r.map V.int)[i + 1]? = some (V.int (r.getD (i + 1) 0)) := fun i hi => by
    have h1 : i < r.length := by omega
    have h2 : i + 1 < r.length := by omega
    simp [h1, h2]
  refine compR2 up_B (((List.range (r.length - 1)).map fun k => decide (r.getD k 0 ≤ r.getD (k + 1) 0)).map some) (m := 1) (n := (r.map V.int).length) S (by walk_at "gv") (by omega) (by rw [List.length_map]; omega) (by simp) (by simp [sizeLine_eq]; omega) (by intro _; rfl) yes_allR2 (fun i y G1 M1 H1 hx ho E1 S1 Q' kk => ?_) (fun p acc G1 H1 E1 S1 e al => ?_)
  · have hx2 : i < r.length - 1 := by simpa using hx
    obtain ⟨e1, e2⟩ := hl i hx2
    have ho2 := some_at ho
    rw [List.getElem?_map, List.getElem?_range hx2] at ho2
    have ey : decide (r.getD i 0 ≤ r.getD (i + 1) 0) = y := by simpa using ho2
    walk_at "rd"
    refine rd_ixT (by walk_at "hh") (at_of (by omega) e1) ?_
    walk_at "rd"
    refine rd_ixT (by walk_at "hh") (at_of (by omega) e2) ?_
    walk_at "rd"
    refine kk _ _ _ (Same.refl _) S1 ?_
    rw [← ey]
    show V.bl _ = V.bl _
    congr 1
  · walk_at "rd"
    rw [filt_some] at al
    refine rd_all (bs := (List.range (r.length - 1)).map fun k => decide (r.getD k 0 ≤ r.getD (k + 1) 0)) (by rw [← al.bools]; walk_at "hh") ?_
    refine k _ G1 H1 E1 S1 ?_
    unfold sortedM
    rw [List.all_map]
    rfl
def sp_plain_rows : Sp := pureSp (fun (n : Nat) vs _ => ∃ v, vs = [v] ∧ v = .int (n : Int) ∧ n ≤ 8) (fun n v G => rL rTI (plainM n) v G)
theorem ok_plain_rows (T : Bt mg) (F : Dfn K mg "plain_rows" s_plain_rows) : Has P w K mg base 1 "plain_rows" ["wires"] sp_plain_rows := by
  refine F.ok sc_plain_rows (fun _ _ _ _ _ _ us hl => match us, hl with | [_], _ => rfl) (fun vs H Q E h => by obtain ⟨_, _, _, _, ⟨_, rfl, _⟩, _⟩ := h; rfl) (fun f cdv A outer s H vs Q E hr h => ?_)
  obtain ⟨G, M, n, S, ⟨v, rfl, rfl, hn⟩, k⟩ := h
  refine ⟨_, (pss_cons (ps_set (i := 1) sc_plain_rows.nd rfl (Or.inl rfl) (pe_lst (pa_cons (pe_tup pa_nil) pa_nil)))
    (pss_cons (ps_for PassesOwn.never rfl (pi_range1 (by rfl) T.range (pa_cons (pv 0) pa_nil)) (pg_name (i := 2) sc_plain_rows.nd rfl (Or.inl rfl))
     (pss_one (ps_setLc2 (i := 1) (own := [("row", 3), ("digit", 4)]) (vs1 := [4]) rfl sc_plain_rows.nd rfl rfl (sw_true rfl rfl rfl (by decide +kernel)) (piL K (pv 1)) (blkOk_by (N := ["wires", "found", "_", "row", "digit"]) (sc := defScope s_plain_rows) (by decide +kernel)) (by decide) (fun _ _ _ _ _ => (pg_name (i := 3) sc_plain_rows.nd rfl (Or.inl rfl))) (fun _ _ _ _ _ => pts_nil) (fun _ _ _ _ _ => (piT K (pe_tup (pa_cons pe_int (pa_cons pe_int pa_nil))))) (fun _ _ _ _ _ => (pg_name (i := 4) sc_plain_rows.nd rfl (Or.inl rfl))) (fun _ _ _ _ _ => pts_nil) (fun _ _ _ _ _ => (pe_op (catA K) (pv 3) (pe_tup (pa_cons (pv 4) pa_nil)))))))
    (pss_one (ps_ret (pv 1))))), ?_⟩
  walk_at "rd"
  apply rd_lst
  walk_at "rd"
  refine al_tup S (by walk_at "gv") (by simp) (fun p0 G1 H1 E1 S1 f1 => ?_)
  walk_at "rd"
  refine ⟨by simp [sizeLine_eq], fun p1 hp1 => ?_⟩
  obtain ⟨G2, E2, S2, f2⟩ := S1.addG (o := .lst [.ref p0]) hp1
  walk_at "rd"
  refine loopR (n := n) (fun i σ G' M' => ∃ a x y z, σ = [some (.int n), some (.ref a), x, y, z] ∧ Same G G' ∧ M' = M ∧ rL rTI (plainM i) (.ref a) G') S2 (by walk_at "gv") (by omega)
    ⟨p1, _, _, _, rfl, E1.trans E2, rfl, p1, _, rfl, f2, All2.nil.cons ⟨p0, rfl, E2 _ _ f1⟩⟩ (fun i σ G3 M3 H3 hi hI S3 => ?_) (fun σ G3 M3 H3 hI S3 => ?_)
  · obtain ⟨a, x, y, z, rfl, E3, rfl, ⟨a2, xs, ea, fa, al⟩⟩ := hI
    cases ea
    walk_at "rd"
    have hcnt := plainM_len i
    have hcnt2 := plainM_len (i + 1)
    have hle : 2 ^ (i + 1) ≤ 2 ^ 8 := Nat.pow_le_pow_right (by decide) (by omega)
    refine comp2 up_TI ((plainM i).map fun r => [r ++ [0], r ++ [1]]) S3 (wk_L S3 (by walk_at "gv") fa) (by simp [al.len]) (by rw [← plainM_succ, hcnt2, sizeLine_eq]; omega) (by intro _; rfl) (by intro _ _; rfl) (fun i1 x1 li G4 M4 H4 hx hli E4 S4 => ?_) (fun p acc G4 H4 E4 S4 f4 al4 => ?_)
    · obtain ⟨r, er, b, eb, fb⟩ := al.at hx
      subst eb
      rw [List.getElem?_map, er] at hli
      have hrl := plainM_row i r (List.mem_of_getElem? er)
      cases hli
      refine ⟨[.int 0, .int 1], rfl, fun R kk => ?_, fun jj y1 z1 G5 M5 H5 hy hz E5 S5 Q' kk => ?_⟩
      · walk_at "rd"
        exact al_tup S4 (by walk_at "gv") (by simp [sizeLine_eq]) (fun p G5 H5 E5 S5 f5 => ⟨p, rfl, ⟨_, SqT.of (S5.g _ _ f5)⟩, kk _ G5 H5 E5 S5 (jys_T f5)⟩)
      · have hd : ∃ d : Int, y1 = .int d ∧ z1 = r ++ [d] := by
          match jj, hy, hz with
          | 0, hy, hz => exact ⟨0, by simpa using hy.symm, by simpa using hz.symm⟩
          | 1, hy, hz => exact ⟨1, by simpa using hy.symm, by simpa using hz.symm⟩
          | j + 2, hy, _ => simp at hy
        obtain ⟨d, rfl, rfl⟩ := hd
        walk_at "rd"
        refine al_tup S5 (by walk_at "gv") (by simp [sizeLine_eq]) (fun p G6 H6 E6 S6 f6 => ?_)
        refine al_catT S6 (E6 _ _ (E5 _ _ fb)) f6 (by simp [sizeLine_eq, hrl]; omega) (fun l G7 H7 E7 S7 f7 => ?_)
        exact kk _ G7 H7 (E6.trans E7) S7 ⟨l, rfl, by simpa using f7⟩
    · walk_at "rd"
      exact ⟨G4, _, S4, p, _, _, _, rfl, E3.trans E4, rfl, p, acc, rfl, f4, by rw [plainM_succ]; exact al4⟩
  · obtain ⟨a, x, y, z, rfl, E3, rfl, hp⟩ := hI
    walk_at "rd"
    exact k _ G3 H3 E3 S3 hp
end
end N
/-! NB: the judge's defs on states -/
namespace N
open PySem L2
section
variable {P : Program} {w : World} {K : PySem.W.Frag} {mg : Str → Option Value} {base : Heap}
def sp_is_plain : Sp := pureSp (fun (x : Int × Row) vs G => ∃ v1 v2, vs = [v1, v2] ∧ v1 = .int x.1 ∧ rTI x.2 v2 G) (fun x v _ => ∃ b, v = .bl b ∧ (b = true → isPlain x.1 x.2))
theorem ok_is_plain (T : Bt mg) (F : Dfn K mg "is_plain" s_is_plain) : Has P w K mg base 1 "is_plain" ["wires", "row"] sp_is_plain := by
  refine F.ok sc_is_plain (fun _ _ _ _ _ _ us hl => match us, hl with | [_, _], _ => rfl) (fun vs H Q E h => by obtain ⟨_, _, _, _, ⟨_, _, rfl, _⟩, _⟩ := h; rfl) (fun f cdv A outer s H vs Q E hr h => ?_)
  obtain ⟨G, M, ⟨n, r⟩, S, ⟨v1, v2, rfl, rfl, ⟨a, rfl, ha⟩⟩, k⟩ := h
  refine ⟨_, (pss_cons (ps_if (pt_cmpR op_ne (pe_callB (lenS K) (by rfl) T.len PySem.boot_len (pa_cons (pv 1) pa_nil)) (pv 0) (nomark _))
     (pss_one (ps_ret pe_bl))
     pss_nil)
    (pss_cons (ps_for PassesOwn.never rfl (piT K (pv 1)) (pg_name (i := 2) sc_is_plain.nd rfl (Or.inl rfl))
     (pss_one (ps_if (PW.pt (pw_and (pt_cmpR op_ne (pv 2) pe_int (nomark _)) (pw_and1 (pt_cmpR op_ne (pv 2) pe_int (nomark _)))))
      (pss_one (ps_ret pe_bl))
      pss_nil)))
    (pss_one (ps_ret pe_bl)))), ?_⟩
  walk_at "rd"
  refine rd_ite (fun hc => ?_) (fun hc => ?_)
  · walk_at "rd"
    exact k _ G H (Same.refl _) S ⟨false, rfl, nofun⟩
  · walk_at "rd"
    refine loopT (r.map V.int) (fun i σ G' M' => ∃ z, σ = [some (.int n), some (.ref a), z] ∧ G' = G ∧ M' = M ∧ ∀ x ∈ r.take i, x = 0 ∨ x = 1) S (by walk_at "gv") ⟨_, rfl, rfl, rfl, by simp⟩ (fun i σ G' M' hI H' S' => ?_) (fun i x σ G' M' H' hx hI S' => ?_) (fun σ G' M' H' hI S' => ?_)
    · obtain ⟨z, rfl, rfl, rfl, _⟩ := hI
      exact S'.g _ _ ha
    · obtain ⟨z, rfl, rfl, rfl, hp⟩ := hI
      obtain ⟨m, hm, rfl⟩ := int_at hx
      walk_at "rd"
      refine rd_ite (fun h0 => ?_) (fun h0 => ?_)
      · walk_at "rd"
        refine rd_ite (fun h1 => ?_) (fun h1 => ?_)
        · walk_at "rd"
          exact k _ _ H' (Same.refl _) S' ⟨false, rfl, nofun⟩
        · walk_at "rd"
          refine ⟨_, _, S', _, rfl, rfl, rfl, fun y hy => ?_⟩
          rw [take_push hm] at hy
          rcases List.mem_append.mp hy with hy | hy
          · exact hp y hy
          · rw [List.mem_singleton.mp hy]; omega
      · refine iteF ?_
        walk_at "rd"
        refine ⟨_, _, S', _, rfl, rfl, rfl, fun y hy => ?_⟩
        rw [take_push hm] at hy
        rcases List.mem_append.mp hy with hy | hy
        · exact hp y hy
        · rw [List.mem_singleton.mp hy]; omega
    · obtain ⟨z, rfl, rfl, rfl, hp⟩ := hI
      walk_at "rd"
      refine k _ _ H' (Same.refl _) S' ⟨true, rfl, fun _ => ⟨?_, ?_⟩⟩
      · simpa using hc
      · rw [List.length_map, List.take_length] at hp
        exact hp
theorem lexLt_ltR : ∀ a b : Row, HT.lexLt a b = ltR a b
  | [], [] => rfl
  | [], _ :: _ => rfl
  | _ :: _, [] => rfl
  | x :: xs, y :: ys => by
    show (if x = y then HT.lexLt xs ys else decide (x < y)) = _
    rw [lexLt_ltR xs ys]
    rfl
def sp_is_state : Sp := pureSp (fun (x : Int × List Row) vs G => ∃ v1 v2, vs = [v1, v2] ∧ v1 = .int x.1 ∧ rT rTI x.2 v2 G) (fun x v _ => ∃ b, v = .bl b ∧ (b = true → (∀ r ∈ x.2, isPlain x.1 r) ∧ x.2.Pairwise (fun r q => ltR r q = true)))
theorem ok_is_state (T : Bt mg) (F : Dfn K mg "is_state" s_is_state) (h_is_plain : Has P w K mg base 1 "is_plain" ["wires", "row"] sp_is_plain) : Has P w K mg base 2 "is_state" ["wires", "rows"] sp_is_state := by
  refine F.ok sc_is_state (fun _ _ _ _ _ _ us hl => match us, hl with | [_, _], _ => rfl) (fun vs H Q E h => by obtain ⟨_, _, _, _, ⟨_, _, rfl, _⟩, _⟩ := h; rfl) (fun f cdv A outer s H vs Q E hr h => ?_)
  obtain ⟨G, M, ⟨n, rs⟩, S, ⟨v1, v2, rfl, rfl, ⟨a, xs, rfl, ha, al⟩⟩, k⟩ := h
  refine ⟨_, (pss_cons (ps_set (i := 2) sc_is_state.nd rfl (Or.inl rfl) pe_non)
    (pss_cons (ps_for PassesOwn.never rfl (piT K (pv 1)) (pg_name (i := 3) sc_is_state.nd rfl (Or.inl rfl))
     (pss_cons (ps_if (pt_not (pt_val (pe_fn h_is_plain hr (pa_cons (pv 0) (pa_cons (pv 3) pa_nil)))))
      (pss_one (ps_ret pe_bl))
      pss_nil)
     (pss_cons (ps_if (PW.pt (pw_and (pt_cmpR op_notN (pv 2) pe_non (nomark _)) (pw_and1 (pt_not (pt_cmpR (ltTK K (hu := hr.units0)) (pv 2) (pv 3) (nomark _))))))
      (pss_one (ps_ret pe_bl))
      pss_nil)
     (pss_one (ps_set (i := 2) sc_is_state.nd rfl (Or.inl rfl) (pv 3))))))
    (pss_one (ps_ret pe_bl)))), ?_⟩
  walk_at "rd"
  refine loopT xs (fun i σ G' M' => ∃ bf z, σ = [some (.int n), some (.ref a), some bf, z] ∧ Same G G' ∧ M' = M ∧ (∀ r ∈ rs.take i, isPlain n r) ∧ (rs.take i).Pairwise (fun r q => ltR r q = true) ∧
    (bf = .non ∧ i = 0 ∨ ∃ r j, i = j + 1 ∧ rs[j]? = some r ∧ rTI r bf G)) S (by walk_at "gv") ⟨_, _, rfl, Same.refl _, rfl, by simp, by simp, .inl ⟨rfl, rfl⟩⟩ (fun i σ G' M' hI H' S' => ?_) (fun i x σ G' M' H' hx hI S' => ?_) (fun σ G' M' H' hI S' => ?_)
  · obtain ⟨_, _, rfl, E1, rfl, _⟩ := hI
    exact S'.g _ _ (E1 _ _ ha)
  · obtain ⟨bf, z, rfl, E1, rfl, hp, hs, hb⟩ := hI
    obtain ⟨r, er, hr2⟩ := al.at hx
    walk_at "rd"
    refine ⟨G', _, (n, r), S', ⟨_, _, rfl, rfl, up_TI _ _ _ _ E1 hr2⟩, fun v G2 H2 E2 S2 ⟨b, eb, hb2⟩ => ?_⟩
    subst eb
    walk_at "rd"
    refine rd_iteN (fun h0 => ?_) (fun h0 => ?_)
    · walk_at "rd"
      exact k _ G2 H2 (E1.trans E2) S2 ⟨false, rfl, nofun⟩
    · walk_at "rd"
      have fin : (bf = .non ∨ ∃ r' j, i = j + 1 ∧ rs[j]? = some r' ∧ ltR r' r = true) → Nx (fun i σ G' M1 => ∃ bf z, σ = [some (.int n), some (.ref a), some bf, z] ∧ Same G G' ∧ M1 = M' ∧ (∀ r ∈ rs.take i, isPlain n r) ∧ (rs.take i).Pairwise (fun r q => ltR r q = true) ∧
          (bf = .non ∧ i = 0 ∨ ∃ r j, i = j + 1 ∧ rs[j]? = some r ∧ rTI r bf G)) (i + 1) [some (.int n), some (.ref a), some x, some x] H2 := fun hc => by
        refine ⟨G2, _, S2, x, _, rfl, E1.trans E2, rfl, fun y hy => ?_, ?_, .inr ⟨r, i, rfl, er, hr2⟩⟩
        · rw [take_push er] at hy
          rcases List.mem_append.mp hy with hy | hy
          · exact hp y hy
          · rw [List.mem_singleton.mp hy]; exact hb2 h0
        · rw [take_push er]
          refine List.pairwise_append.mpr ⟨hs, by simp, fun y hy z hz => ?_⟩
          rw [List.mem_singleton.mp hz]
          rcases hc with e | ⟨r', j, rfl, ej, hlt⟩
          · rcases hb with ⟨_, rfl⟩ | ⟨_, _, _, _, ⟨_, e2, _⟩⟩
            · simp at hy
            · rw [e] at e2; cases e2
          · rw [take_push ej] at hy hs
            rcases List.mem_append.mp hy with hy | hy
            · exact ltR_trans _ _ _ ((List.pairwise_append.mp hs).2.2 y hy r' (by simp)) hlt
            · rw [List.mem_singleton.mp hy]; exact hlt
      refine ⟨rfl, ?_⟩
      walk_at "rd"
      refine rd_iteNd (fun h1 => ?_) (fun h1 => ?_)
      · walk_at "rd"
        obtain ⟨r', j, ej, er', ⟨a', e2, f'⟩⟩ : ∃ r j, i = j + 1 ∧ rs[j]? = some r ∧ rTI r bf G := by
          rcases hb with ⟨e, _⟩ | h
          · exact absurd e h1
          · exact h
        subst e2
        obtain ⟨b', e3, f3⟩ := hr2
        subst e3
        refine ⟨a', b', r', r, rfl, rfl, SqT.of (S2.g _ _ (E2 _ _ (E1 _ _ f'))), SqT.of (S2.g _ _ (E2 _ _ (E1 _ _ f3))), ?_⟩
        walk_at "rd"
        refine rd_iteN (fun h2 => ?_) (fun h2 => ?_)
        · walk_at "rd"
          exact k _ G2 H2 (E1.trans E2) S2 ⟨false, rfl, nofun⟩
        · walk_at "rd"
          exact fin (.inr ⟨r', j, ej, er', by rw [← lexLt_ltR]; exact h2⟩)
      · refine iteF ?_
        walk_at "rd"
        exact fin (.inl h1)
  · obtain ⟨bf, z, rfl, E1, rfl, hp, hs, hb⟩ := hI
    walk_at "rd"
    refine k _ G' H' E1 S' ⟨true, rfl, fun _ => ?_⟩
    rw [al.len, List.take_length] at hp hs
    exact ⟨hp, hs⟩
def sp_is_renaming : Sp := pureSp (fun (x : Int × Row) vs G => ∃ v1 v2, vs = [v1, v2] ∧ v1 = .int x.1 ∧ rTI x.2 v2 G ∧ x.2.length ≤ 4000)
  (fun x v _ => ∃ b, v = .bl b ∧ (b = true → (x.2.length : Int) = x.1 ∧ x.2.Perm ((List.range x.2.length).map fun (i : Nat) => ((i : Nat) : Int))))
theorem ok_is_renaming (T : Bt mg) (F : Dfn K mg "is_renaming" s_is_renaming) : Has P w K mg base 1 "is_renaming" ["wires", "names"] sp_is_renaming := by
  refine F.ok sc_is_renaming (fun _ _ _ _ _ _ us hl => match us, hl with | [_, _], _ => rfl) (fun vs H Q E h => by obtain ⟨_, _, _, _, ⟨_, _, rfl, _⟩, _⟩ := h; rfl) (fun f cdv A outer s H vs Q E hr h => ?_)
  obtain ⟨G, M, ⟨n, ns⟩, S, ⟨v1, v2, rfl, rfl, ⟨a, rfl, ha⟩, hlen⟩, k⟩ := h
  dsimp only at hlen ha
  refine ⟨_, (pss_one (ps_ret (pe_and (pe_cmpR op_eq (pe_callB (lenS K) (by rfl) T.len PySem.boot_len (pa_cons (pv 1) pa_nil)) (pv 0) (nomark _)) (pe_one (pe_cmpR (eqDK K (hu := hr.units)) (pe_callB (srtT K) (by rfl) T.sorted (by decide +kernel) (pa_cons (pv 1) pa_nil)) (pe_listRg rfl (by rfl) T.list (prg_1 (by rfl) T.range (pv 0))) (nomark _)))))), ?_⟩
  walk_at "rd"
  refine rd_ite (fun hc => ?_) (fun hc => ?_)
  · walk_at "rd"
    refine ⟨a, ns, rfl, SqT.of (S.g _ _ ha), fun out p hp hs hn => ?_⟩
    obtain ⟨G1, E1, S1, f1⟩ := S.addG (o := .lst (out.map V.int)) hn
    walk_at "rd"
    have hc2 : ((ns.length : Nat) : Int) = n := by simpa using hc
    subst hc2
    refine rd_lstRg (n := ns.length) S1 (by walk_at "gv") (by omega) (fun l G2 H2 E2 S2 f2 => ?_)
    have f3 : G2 l = some (.lst (((List.range ns.length).map fun (i : Nat) => ((i : Nat) : Int)).map V.int)) := by
      rw [f2, List.map_map]
      rfl
    refine ⟨_, _, dp_L (S2.g _ _ (E2 _ _ f1)), dp_L (S2.g _ _ f3), sh_dL _, sh_dL _, ?_⟩
    refine k _ G2 H2 (E1.trans E2) S2 ⟨_, rfl, fun h => ⟨rfl, ?_⟩⟩
    rw [eqv_dL, decide_eq_true_eq] at h
    exact hp.symm.trans (by rw [h])
  · walk_at "rd"
    exact k _ G H (Same.refl _) S ⟨false, rfl, nofun⟩
def sp_renamed_row : Sp := pureSp (fun (x : Row × Row) vs G => ∃ v1 v2, vs = [v1, v2] ∧ rTI x.1 v1 G ∧ rTI x.2 v2 G ∧ x.2.length = x.1.length ∧ x.1.length ≤ 4000 ∧ ∀ n ∈ x.2, 0 ≤ n ∧ n < x.1.length)
  (fun x v G => rTI (renamedM x.1 x.2) v G)
theorem ok_renamed_row (T : Bt mg) (F : Dfn K mg "renamed_row" s_renamed_row) : Has P w K mg base 1 "renamed_row" ["row", "names"] sp_renamed_row := by
  refine F.ok sc_renamed_row (fun _ _ _ _ _ _ us hl => match us, hl with | [_, _], _ => rfl) (fun vs H Q E h => by obtain ⟨_, _, _, _, ⟨_, _, rfl, _⟩, _⟩ := h; rfl) (fun f cdv A outer s H vs Q E hr h => ?_)
  obtain ⟨G, M, ⟨r, ns⟩, S, ⟨v1, v2, rfl, ⟨a, rfl, ha⟩, ⟨b, rfl, hb⟩, hl, hlen, hin⟩, k⟩ := h
  dsimp only at hl hlen hin ha hb
  refine ⟨_, (pss_cons (ps_set (i := 2) sc_renamed_row.nd rfl (Or.inl rfl) (pe_callTy (lstO K) (by rfl) T.list (by decide +kernel) (pa_cons (pv 0) pa_nil)))
    (pss_cons (ps_for PassesOwn.never rfl (pi_range1 (by rfl) T.range (pa_cons (pe_callB (lenS K) (by rfl) T.len PySem.boot_len (pa_cons (pv 0) pa_nil)) pa_nil)) (pg_name (i := 3) sc_renamed_row.nd rfl (Or.inl rfl))
     (pss_one (ps_asg (pe_ix (ixT K) (pv 0) (pv 3) (fun _ _ => rfl)) (pg_sub (pv 2) (pe_ix (ixT K) (pv 1) (pv 3) (fun _ _ => rfl)) set_list))))
    (pss_one (ps_ret (pe_callTy (tupO K) (by rfl) T.tuple (by decide +kernel) (pa_cons (pv 2) pa_nil)))))), ?_⟩
  walk_at "rd"
  refine al_lsTM S (S.g _ _ ha) (fun D M1 H1 e1 S1 f1 n1 n2 => ?_)
  walk_at "rd"
  refine loopR (n := r.length) (fun i σ G' M' => ∃ z, σ = [some (.ref a), some (.ref b), some (.ref D), z] ∧ G' = G ∧ (∀ c, c ≠ D → M' c = M c) ∧ M' D = some (.lst ((renM r ns i).map V.int))) S1 (by intro R_ q_; walk_at "rd"; simpa using q_) (by omega) ⟨_, rfl, rfl, e1, f1⟩ (fun i σ G' M' H' hi hI S' => ?_) (fun σ G' M' H' hI S' => ?_)
  · obtain ⟨z, rfl, rfl, e2, f2⟩ := hI
    have hr1 : (r.map V.int)[i]? = some (.int (r.getD i 0)) := by simp [hi]
    have hn1 : (ns.map V.int)[i]? = some (.int (ns.getD i 0)) := by
      have : i < ns.length := by omega
      simp [this]
    have hin2 := hin (ns.getD i 0) (by
      have : i < ns.length := by omega
      simp [this])
    walk_at "rd"
    refine rd_setM S' f2 (ixN_of (j := (ns.getD i 0).toNat) (by omega) (by rw [List.length_map, renM_len]; omega)) (fun M2 H2 e3 S2 f3 => ?_)
    walk_at "rd"
    refine ⟨_, M2, S2, _, rfl, rfl, fun c hc => (e3 c hc).trans (e2 c hc), ?_⟩
    rw [f3, renM, List.map_set]
  · obtain ⟨z, rfl, rfl, e2, f2⟩ := hI
    walk_at "rd"
    refine al_tpL S' (S'.m _ _ f2) (fun l G1 H2 E1 S2 f3 => ?_)
    obtain ⟨G2, E2, S3, f4⟩ := S2.drop f2 e2 n1
    exact k _ G2 H2 (E1.trans E2) S3 ⟨l, rfl, E2 _ _ f3⟩
end
end N
/-! NC: the judge's defs on states, further -/
namespace N
open PySem L2
theorem at_in {r : Row} {p : Cp} (h : CpIn r.length p) : atI (r.map V.int) p.1 = some (.int (r.getD p.1.toNat 0)) ∧ atI (r.map V.int) p.2 = some (.int (r.getD p.2.toNat 0)) := by
  obtain ⟨h1, h2, h3, h4⟩ := h
  refine ⟨at_of (j := p.1.toNat) (by omega) ?_, at_of (j := p.2.toNat) (by omega) ?_⟩
  · have : p.1.toNat < r.length := by omega
    simp [this]
  · have : p.2.toNat < r.length := by omega
    simp [this]
section
variable {P : Program} {w : World} {K : PySem.W.Frag} {mg : Str → Option Value} {base : Heap}
def sp_passed : Sp := pureSp (fun (x : Row × List Cp) vs G => ∃ v1 v2, vs = [v1, v2] ∧ rTI x.1 v1 G ∧ (rT rP x.2 v2 G ∨ rL rP x.2 v2 G) ∧ ∀ c ∈ x.2, CpIn x.1.length c)
  (fun x v G => rTI (passedM x.1 x.2) v G)
theorem ok_passed (T : Bt mg) (F : Dfn K mg "passed" s_passed) : Has P w K mg base 1 "passed" ["row", "comparers"] sp_passed := by
  refine F.ok sc_passed (fun _ _ _ _ _ _ us hl => match us, hl with | [_, _], _ => rfl) (fun vs H Q E h => by obtain ⟨_, _, _, _, ⟨_, _, rfl, _⟩, _⟩ := h; rfl) (fun f cdv A outer s H vs Q E hr h => ?_)
  obtain ⟨G, M, ⟨r, cs⟩, S, ⟨v1, v2, rfl, ⟨a, rfl, ha⟩, hcs, hin⟩, k⟩ := h
  dsimp only at hcs hin ha
  rcases hcs with ⟨b, xs, rfl, hb, al⟩ | ⟨b, xs, rfl, hb, al⟩
  · refine ⟨_, (pss_cons (ps_set (i := 2) sc_passed.nd rfl (Or.inl rfl) (pe_callTy (lstO K) (by rfl) T.list (by decide +kernel) (pa_cons (pv 0) pa_nil)))
    (pss_cons (ps_for PassesOwn.never rfl (piT K (pv 1)) (pgT K 2 rfl (pgs_cons (pg_name (i := 3) sc_passed.nd rfl (Or.inl rfl)) (pgs_cons (pg_name (i := 4) sc_passed.nd rfl (Or.inl rfl)) pgs_nil)))
     (pss_one (ps_if (pt_cmpR op_gt (pe_ix (ixL K) (pv 2) (pv 3) (fun _ _ => rfl)) (pe_ix (ixL K) (pv 2) (pv 4) (fun _ _ => rfl)) (nomark _))
      (pss_one (ps_asg (pe_tup (pa_cons (pe_ix (ixL K) (pv 2) (pv 4) (fun _ _ => rfl)) (pa_cons (pe_ix (ixL K) (pv 2) (pv 3) (fun _ _ => rfl)) pa_nil))) (pgT K 2 rfl (pgs_cons (pg_sub (pv 2) (pv 3) set_list) (pgs_cons (pg_sub (pv 2) (pv 4) set_list) pgs_nil)))))
      pss_nil)))
    (pss_one (ps_ret (pe_callTy (tupO K) (by rfl) T.tuple (by decide +kernel) (pa_cons (pv 2) pa_nil)))))), ?_⟩
    walk_at "rd"
    refine al_lsTM S (S.g _ _ ha) (fun D M1 H1 e1 S1 f1 n1 n2 => ?_)
    walk_at "rd"
    refine loopT xs (fun i σ G' M' => ∃ z1 z2, σ = [some (.ref a), some (.ref b), some (.ref D), z1, z2] ∧ Same G G' ∧ (∀ c, c ≠ D → M' c = M c) ∧ M' D = some (.lst ((passedM r (cs.take i)).map V.int))) S1 (by walk_at "gv") ⟨_, _, rfl, Same.refl _, e1, f1⟩ (fun i σ G' M' hI H' S' => ?_) (fun i x σ G' M' H' hx hI S' => ?_) (fun σ G' M' H' hI S' => ?_)
    · obtain ⟨_, _, rfl, E1, _⟩ := hI
      exact S'.g _ _ (E1 _ _ hb)
    · obtain ⟨z1, z2, rfl, E1, e2, f2⟩ := hI
      obtain ⟨p, ep, t, x1, y1, rfl, ht, hx1, hy1⟩ := al.at hx
      cases hx1
      cases hy1
      have hin2 := hin p (List.mem_of_getElem? ep)
      have hl := passedM_len (cs.take i) r
      obtain ⟨i1, i2⟩ := at_in (r := passedM r (cs.take i)) (p := p) (by rw [hl]; exact hin2)
      have ecur : passedM r (cs.take (i + 1)) = cmpM (passedM r (cs.take i)) p := by
        rw [take_push ep]
        unfold passedM
        rw [List.foldl_append]
        rfl
      generalize passedM r (cs.take i) = cur at *
      obtain ⟨b1, b2, b3, b4⟩ := hin2
      walk_at "rd"
      refine rd_ite (fun hc => ?_) (fun hc => ?_)
      · walk_at "rd"
        refine al_tup S' (by walk_at "gv") (by simp [sizeLine_eq]) (fun q G2 H2 E2 S2 f3 => ?_)
        walk_at "rd"
        refine rd_setM S2 f2 (ixN_of (j := p.1.toNat) (by omega) (by rw [List.length_map, hl]; omega)) (fun M2 H3 e3 S3 f4 => ?_)
        walk_at "rd"
        refine rd_setM S3 f4 (ixN_of (j := p.2.toNat) (by omega) (by rw [List.length_set, List.length_map, hl]; omega)) (fun M3 H4 e4 S4 f5 => ?_)
        walk_at "rd"
        refine ⟨G2, M3, S4, _, _, rfl, E1.trans E2, fun c hc => (e4 c hc).trans ((e3 c hc).trans (e2 c hc)), ?_⟩
        rw [f5, ecur]
        unfold cmpM
        rw [if_pos hc, List.map_set, List.map_set]
      · walk_at "rd"
        refine ⟨G', M', S', _, _, rfl, E1, e2, ?_⟩
        rw [f2, ecur]
        unfold cmpM
        rw [if_neg hc]
    · obtain ⟨z1, z2, rfl, E1, e2, f2⟩ := hI
      rw [al.len, List.take_length] at f2
      walk_at "rd"
      refine al_tpL S' (S'.m _ _ f2) (fun l G1 H2 E2 S2 f3 => ?_)
      obtain ⟨G2, E3, S3, f4⟩ := S2.drop f2 e2 n1
      exact k _ G2 H2 ((E1.trans E2).trans E3) S3 ⟨l, rfl, E3 _ _ f3⟩
  · refine ⟨_, (pss_cons (ps_set (i := 2) sc_passed.nd rfl (Or.inl rfl) (pe_callTy (lstO K) (by rfl) T.list (by decide +kernel) (pa_cons (pv 0) pa_nil)))
    (pss_cons (ps_for PassesOwn.never rfl (piL K (pv 1)) (pgT K 2 rfl (pgs_cons (pg_name (i := 3) sc_passed.nd rfl (Or.inl rfl)) (pgs_cons (pg_name (i := 4) sc_passed.nd rfl (Or.inl rfl)) pgs_nil)))
     (pss_one (ps_if (pt_cmpR op_gt (pe_ix (ixL K) (pv 2) (pv 3) (fun _ _ => rfl)) (pe_ix (ixL K) (pv 2) (pv 4) (fun _ _ => rfl)) (nomark _))
      (pss_one (ps_asg (pe_tup (pa_cons (pe_ix (ixL K) (pv 2) (pv 4) (fun _ _ => rfl)) (pa_cons (pe_ix (ixL K) (pv 2) (pv 3) (fun _ _ => rfl)) pa_nil))) (pgT K 2 rfl (pgs_cons (pg_sub (pv 2) (pv 3) set_list) (pgs_cons (pg_sub (pv 2) (pv 4) set_list) pgs_nil)))))
      pss_nil)))
    (pss_one (ps_ret (pe_callTy (tupO K) (by rfl) T.tuple (by decide +kernel) (pa_cons (pv 2) pa_nil)))))), ?_⟩
    walk_at "rd"
    refine al_lsTM S (S.g _ _ ha) (fun D M1 H1 e1 S1 f1 n1 n2 => ?_)
    walk_at "rd"
    refine loopL xs (fun i σ G' M' => ∃ z1 z2, σ = [some (.ref a), some (.ref b), some (.ref D), z1, z2] ∧ Same G G' ∧ (∀ c, c ≠ D → M' c = M c) ∧ M' D = some (.lst ((passedM r (cs.take i)).map V.int))) S1 (by walk_at "gv") ⟨_, _, rfl, Same.refl _, e1, f1⟩ (fun i σ G' M' hI H' S' => ?_) (fun i x σ G' M' H' hx hI S' => ?_) (fun σ G' M' H' hI S' => ?_)
    · obtain ⟨_, _, rfl, E1, _⟩ := hI
      exact S'.g _ _ (E1 _ _ hb)
    · obtain ⟨z1, z2, rfl, E1, e2, f2⟩ := hI
      obtain ⟨p, ep, t, x1, y1, rfl, ht, hx1, hy1⟩ := al.at hx
      cases hx1
      cases hy1
      have hin2 := hin p (List.mem_of_getElem? ep)
      have hl := passedM_len (cs.take i) r
      obtain ⟨i1, i2⟩ := at_in (r := passedM r (cs.take i)) (p := p) (by rw [hl]; exact hin2)
      have ecur : passedM r (cs.take (i + 1)) = cmpM (passedM r (cs.take i)) p := by
        rw [take_push ep]
        unfold passedM
        rw [List.foldl_append]
        rfl
      generalize passedM r (cs.take i) = cur at *
      obtain ⟨b1, b2, b3, b4⟩ := hin2
      walk_at "rd"
      refine rd_ite (fun hc => ?_) (fun hc => ?_)
      · walk_at "rd"
        refine al_tup S' (by walk_at "gv") (by simp [sizeLine_eq]) (fun q G2 H2 E2 S2 f3 => ?_)
        walk_at "rd"
        refine rd_setM S2 f2 (ixN_of (j := p.1.toNat) (by omega) (by rw [List.length_map, hl]; omega)) (fun M2 H3 e3 S3 f4 => ?_)
        walk_at "rd"
        refine rd_setM S3 f4 (ixN_of (j := p.2.toNat) (by omega) (by rw [List.length_set, List.length_map, hl]; omega)) (fun M3 H4 e4 S4 f5 => ?_)
        walk_at "rd"
        refine ⟨G2, M3, S4, _, _, rfl, E1.trans E2, fun c hc => (e4 c hc).trans ((e3 c hc).trans (e2 c hc)), ?_⟩
        rw [f5, ecur]
        unfold cmpM
        rw [if_pos hc, List.map_set, List.map_set]
      · walk_at "rd"
        refine ⟨G', M', S', _, _, rfl, E1, e2, ?_⟩
        rw [f2, ecur]
        unfold cmpM
        rw [if_neg hc]
    · obtain ⟨z1, z2, rfl, E1, e2, f2⟩ := hI
      rw [al.len, List.take_length] at f2
      walk_at "rd"
      refine al_tpL S' (S'.m _ _ f2) (fun l G1 H2 E2 S2 f3 => ?_)
      obtain ⟨G2, E3, S3, f4⟩ := S2.drop f2 e2 n1
      exact k _ G2 H2 ((E1.trans E2).trans E3) S3 ⟨l, rfl, E3 _ _ f3⟩
end
end N
/-! NE: the judge's defs on states and steps -/
namespace N
open PySem L2
section
variable {P : Program} {w : World} {K : PySem.W.Frag} {mg : Str → Option Value} {base : Heap}
def sp_results : Sp := pureSp (fun (x : List Row × List Cp) vs G => ∃ v1 v2, vs = [v1, v2] ∧ rT rTI x.1 v1 G ∧ rL rP x.2 v2 G ∧ x.1.length ≤ 4000 ∧ ∀ r ∈ x.1, ∀ c ∈ x.2, CpIn r.length c)
  (fun x v G => rL rTI (x.1.map fun r => passedM r x.2) v G)
theorem ok_results (T : Bt mg) (F : Dfn K mg "results" s_results) (h_passed : Has P w K mg base 1 "passed" ["row", "comparers"] sp_passed) : Has P w K mg base 2 "results" ["rows", "comparers"] sp_results := by
  refine F.ok sc_results (fun _ _ _ _ _ _ us hl => match us, hl with | [_, _], _ => rfl) (fun vs H Q E h => by obtain ⟨_, _, _, _, ⟨_, _, rfl, _⟩, _⟩ := h; rfl) (fun f cdv A outer s H vs Q E hr h => ?_)
  obtain ⟨G, M, ⟨rs, cs⟩, S, ⟨v1, v2, rfl, ⟨a, xs, rfl, ha, al⟩, hcs, hlen, hin⟩, k⟩ := h
  dsimp only at hcs hin ha hlen al
  refine ⟨_, (pss_one (ps_ret (pe_lc (own := [("row", 2)]) rfl sc_results.nd (piT K (pv 0)) (blkOk_by (N := ["rows", "comparers", "row"]) (sc := defScope s_results) (by decide +kernel)) (fun _ _ _ _ _ => (pg_name (i := 2) sc_results.nd rfl (Or.inl rfl))) (fun _ _ _ _ _ => pts_nil) (fun _ _ _ _ _ => (pe_fn h_passed hr (pa_cons (pv 2) (pa_cons (pv 1) pa_nil))))))), ?_⟩
  walk_at "rd"
  refine compT up_TI ((rs.map fun r => passedM r cs).map some) S (by walk_at "gv") ha (by simp [al.len]) (by simp [sizeLine_eq]; omega) (by intro _; rfl) yes_all (fun i x y G1 M1 H1 hx ho E1 S1 Q' kk => ?_) (fun p acc G1 H1 E1 S1 e al2 => ?_)
  · obtain ⟨r, er, hr2⟩ := al.at hx
    have ey := some_at ho
    rw [List.getElem?_map, er] at ey
    cases ey
    walk_at "rd"
    refine ⟨G1, M1, (r, cs), S1, ⟨_, _, rfl, up_TI _ _ _ _ E1 hr2, .inr (up_L up_P _ _ _ _ E1 hcs), hin r (List.mem_of_getElem? er)⟩, fun v G2 H2 E2 S2 hv => ?_⟩
    exact kk v G2 H2 E2 S2 hv
  · walk_at "rd"
    rw [filt_some] at al2
    exact k _ G1 H1 E1 S1 ⟨p, acc, rfl, e, al2⟩
def sp_is_covered : Sp := pureSp (fun (x : List Row × List Row × Row) vs G => ∃ v1 v2 v3, vs = [v1, v2, v3] ∧ rL rTI x.1 v1 G ∧ rT rTI x.2.1 v2 G ∧ rTI x.2.2 v3 G ∧ x.2.2.length ≤ 4000 ∧ (∀ r ∈ x.2.1, x.2.2.length = r.length) ∧ ∀ n ∈ x.2.2, 0 ≤ n ∧ n < x.2.2.length)
  (fun x v _ => ∃ b, v = .bl b ∧ (b = true → ∀ r ∈ x.2.1, renamedM r x.2.2 ∈ x.1))
theorem ok_is_covered (T : Bt mg) (F : Dfn K mg "is_covered" s_is_covered) (h_renamed_row : Has P w K mg base 1 "renamed_row" ["row", "names"] sp_renamed_row) : Has P w K mg base 2 "is_covered" ["rows", "state", "names"] sp_is_covered := by
  refine F.ok sc_is_covered (fun _ _ _ _ _ _ us hl => match us, hl with | [_, _, _], _ => rfl) (fun vs H Q E h => by obtain ⟨_, _, _, _, ⟨_, _, _, rfl, _⟩, _⟩ := h; rfl) (fun f cdv A outer s H vs Q E hr h => ?_)
  obtain ⟨G, M, ⟨qs, ss, ns⟩, S, ⟨v1, v2, v3, rfl, ⟨a, xs, rfl, ha, al⟩, ⟨b, ys, rfl, hb, bl⟩, hns, hlen, hl, hin⟩, k⟩ := h
  dsimp only at hns hin ha hlen al hb bl hl
  refine ⟨_, (pss_cons (ps_for PassesOwn.never rfl (piT K (pv 1)) (pg_name (i := 3) sc_is_covered.nd rfl (Or.inl rfl))
     (pss_one (ps_if (pt_cmpR (notInDK K (hu := hu65 hr)) (pe_fn h_renamed_row hr (pa_cons (pv 3) (pa_cons (pv 2) pa_nil))) (pv 0) (by rfl))
      (pss_one (ps_ret pe_bl))
      pss_nil)))
    (pss_one (ps_ret pe_bl))), ?_⟩
  walk_at "rd"
  refine loopT ys (fun i σ G' M' => ∃ v3 z, σ = [some (.ref a), some (.ref b), some v3, z] ∧ Same G G' ∧ M' = M ∧ rTI ns v3 G ∧ ∀ r ∈ ss.take i, renamedM r ns ∈ qs) S (by walk_at "gv") ⟨_, _, rfl, Same.refl _, rfl, hns, by simp⟩ (fun i σ G' M' hI H' S' => ?_) (fun i x σ G' M' H' hx hI S' => ?_) (fun σ G' M' H' hI S' => ?_)
  · obtain ⟨_, _, rfl, E1, _⟩ := hI
    exact S'.g _ _ (E1 _ _ hb)
  · obtain ⟨v3, z, rfl, E1, rfl, hns3, hp⟩ := hI
    obtain ⟨r, er, hr2⟩ := bl.at hx
    have hrl := hl r (List.mem_of_getElem? er)
    walk_at "rd"
    refine ⟨G', _, (r, ns), S', ⟨_, _, rfl, up_TI _ _ _ _ E1 hr2, up_TI _ _ _ _ E1 hns3, hrl, by dsimp only; omega, fun n hn => by have := hin n hn; dsimp only; omega⟩, fun v G2 H2 E2 S2 ⟨c, ec, fc⟩ => ?_⟩
    subst ec
    walk_at "rd"
    refine ⟨dT (renamedM r ns), qs.map dT, dp_T (S2.g _ _ fc), dp_lrows S2 (E2 _ _ (E1 _ _ ha)) (al.up up_TI (E1.trans E2)), sh_dT _, sh_rows _, ?_⟩
    walk_at "rd"
    rw [any_rows]
    refine rd_iteNd (fun h0 => ?_) (fun h0 => ?_)
    · walk_at "rd"
      exact k _ G2 H2 (E1.trans E2) S2 ⟨false, rfl, nofun⟩
    · walk_at "rd"
      refine ⟨G2, _, S2, _, _, rfl, E1.trans E2, rfl, hns3, fun y hy => ?_⟩
      rw [take_push er] at hy
      rcases List.mem_append.mp hy with hy | hy
      · exact hp y hy
      · rw [List.mem_singleton.mp hy]; exact h0
  · obtain ⟨v3, z, rfl, E1, rfl, _, hp⟩ := hI
    rw [bl.len, List.take_length] at hp
    walk_at "rd"
    exact k _ G' H' E1 S' ⟨true, rfl, fun _ => hp⟩
def sp_is_unsettled : Sp := pureSp (fun (x : List Row) vs G => ∃ v1, vs = [v1] ∧ rT rTI x v1 G ∧ x.length ≤ 4000 ∧ ∀ r ∈ x, r.length ≤ 4000)
  (fun x v _ => ∃ b, v = .bl b ∧ (b = true → unsettledM x))
theorem ok_is_unsettled (T : Bt mg) (F : Dfn K mg "is_unsettled" s_is_unsettled) (h_noughts : Has P w K mg base 1 "noughts" ["row"] sp_noughts) : Has P w K mg base 2 "is_unsettled" ["state"] sp_is_unsettled := by
  refine F.ok sc_is_unsettled (fun _ _ _ _ _ _ us hl => match us, hl with | [_], _ => rfl) (fun vs H Q E h => by obtain ⟨_, _, _, _, ⟨_, rfl, _⟩, _⟩ := h; rfl) (fun f cdv A outer s H vs Q E hr h => ?_)
  obtain ⟨G, M, rs, S, ⟨v1, rfl, ⟨a, xs, rfl, ha, al⟩, hlen, hl⟩, k⟩ := h
  refine ⟨_, (pss_cons (ps_setLc (i := 1) (own := [("row", 2)]) rfl sc_is_unsettled.nd rfl rfl (sw_true rfl rfl rfl (by decide +kernel)) (piT K (pv 0)) (blkOk_by (N := ["state", "counts", "row", "count"]) (sc := defScope s_is_unsettled) (by decide +kernel)) (fun _ _ _ _ _ => (pg_name (i := 2) sc_is_unsettled.nd rfl (Or.inl rfl))) (fun _ _ _ _ _ => pts_nil) (fun _ _ _ _ _ => (pe_fn h_noughts hr (pa_cons (pv 2) pa_nil))))
    (pss_cons (ps_for PassesOwn.never rfl (piL K (pv 1)) (pg_name (i := 3) sc_is_unsettled.nd rfl (Or.inl rfl))
     (pss_one (ps_if (pt_cmpR op_gt (pe_bm PySem.F.plainAttrs_list PySem.F.slot_list_count PySem.F.type_list_count (cntK K) (pv 1) (pa_cons (pv 3) pa_nil)) pe_int (nomark _))
      (pss_one (ps_ret pe_bl))
      pss_nil)))
    (pss_one (ps_ret pe_bl)))), ?_⟩
  walk_at "rd"
  refine compT up_Z ((countsM rs).map some) S (by walk_at "gv") ha (by simp [al.len, countsM]) (by simp [sizeLine_eq, countsM]; omega) (by intro _; rfl) yes_all (fun i x y G1 M1 H1 hx ho E1 S1 Q' kk => ?_) (fun p acc G1 H1 E1 S1 e al2 => ?_)
  · obtain ⟨r, er, hr2⟩ := al.at hx
    have ey := some_at ho
    unfold countsM at ey
    rw [List.getElem?_map, er] at ey
    cases ey
    walk_at "rd"
    exact ⟨G1, M1, r, S1, ⟨_, rfl, up_TI _ _ _ _ E1 hr2, hl r (List.mem_of_getElem? er)⟩, fun v G2 H2 E2 S2 hv => kk v G2 H2 E2 S2 hv⟩
  · rw [filt_some] at al2
    have ea := al2.ints
    subst ea
    walk_at "rd"
    refine loopL ((countsM rs).map V.int) (fun i σ G' M' => ∃ z1 z2, σ = [some (.ref a), some (.ref p), z1, z2] ∧ G' = G1 ∧ M' = M) S1 (by walk_at "gv") ⟨_, _, rfl, rfl, rfl⟩ (fun i σ G' M' hI H' S' => ?_) (fun i x σ G' M' H' hx hI S' => ?_) (fun σ G' M' H' hI S' => ?_)
    · obtain ⟨_, _, rfl, rfl, _⟩ := hI
      exact S'.g _ _ e
    · obtain ⟨z1, z2, rfl, rfl, rfl⟩ := hI
      obtain ⟨c, ec, rfl⟩ := int_at hx
      walk_at "rd"
      refine ⟨ty_lst (S'.g _ _ e), ?_⟩
      walk_at "rd"
      refine rd_cnt (S'.g _ _ e) ?_
      walk_at "rd"
      refine rd_ite (fun h0 => ?_) (fun h0 => ?_)
      · walk_at "rd"
        exact k _ _ _ E1 S' ⟨true, rfl, fun _ => ⟨c, List.mem_of_getElem? ec, by omega⟩⟩
      · walk_at "rd"
        exact ⟨_, _, S', _, _, rfl, rfl, rfl⟩
    · obtain ⟨z1, z2, rfl, rfl, rfl⟩ := hI
      walk_at "rd"
      exact k _ _ _ E1 S' ⟨false, rfl, nofun⟩
end
end N
/-! NF: steps -/
namespace N
open PySem L2
section
variable {P : Program} {w : World} {K : PySem.W.Frag} {mg : Str → Option Value} {base : Heap}
def sp_standard_comparers : Sp := pureSp (fun (n : Nat) vs _ => ∃ v, vs = [v] ∧ v = .int (n : Int) ∧ n ≤ 8) (fun n v G => rL rP (scM n) v G)
theorem ok_standard_comparers (T : Bt mg) (F : Dfn K mg "standard_comparers" s_standard_comparers) : Has P w K mg base 1 "standard_comparers" ["wires"] sp_standard_comparers := by
  refine F.ok sc_standard_comparers (fun _ _ _ _ _ _ us hl => match us, hl with | [_], _ => rfl) (fun vs H Q E h => by obtain ⟨_, _, _, _, ⟨_, rfl, _⟩, _⟩ := h; rfl) (fun f cdv A outer s H vs Q E hr h => ?_)
  obtain ⟨G, M, n, S, ⟨v, rfl, rfl, hn⟩, k⟩ := h
  refine ⟨_, (pss_one (ps_ret (pe_lc2 (own := [("i", 1), ("j", 2)]) (vs1 := [2]) rfl sc_standard_comparers.nd (pi_range1 (by rfl) T.range (pa_cons (pv 0) pa_nil)) (blkOk_by (N := ["wires", "i", "j"]) (sc := defScope s_standard_comparers) (by decide +kernel)) (by decide) (fun _ _ _ _ _ => (pg_name (i := 1) sc_standard_comparers.nd rfl (Or.inl rfl))) (fun _ _ _ _ _ => pts_nil) (fun _ _ _ _ _ => (pi_range2 (by rfl) T.range (pa_cons (pe_op op_add (pv 1) pe_int) (pa_cons (pv 0) pa_nil)))) (fun _ _ _ _ _ => (pg_name (i := 2) sc_standard_comparers.nd rfl (Or.inl rfl))) (fun _ _ _ _ _ => pts_nil) (fun _ _ _ _ _ => (pe_tup (pa_cons (pv 1) (pa_cons (pv 2) pa_nil))))))), ?_⟩
  walk_at "rd"
  have hsz : ((List.range n).map fun i => (List.range (n - (i + 1))).map fun (j : Nat) => ((i : Int), ((i + 1 + j : Nat) : Int))).flatten.length ≤ 64 := by
    have : ∀ n, n ≤ 8 → ((List.range n).map fun i => (List.range (n - (i + 1))).map fun (j : Nat) => ((i : Int), ((i + 1 + j : Nat) : Int))).flatten.length ≤ 64 := by decide
    exact this n hn
  refine comp2 up_P ((List.range n).map fun i => (List.range (n - (i + 1))).map fun (j : Nat) => ((i : Int), ((i + 1 + j : Nat) : Int))) S (wk_R1 (n := n) S (by walk_at "gv") (by omega)) (by simp) (by rw [sizeLine_eq]; omega) (by intro _; rfl) (by intro _ _; rfl) (fun i x li G1 M1 H1 hx hli E1 S1 => ?_) (fun p acc G1 H1 E1 S1 e al => ?_)
  · have hi : i < n := by
      have := (List.getElem?_eq_some_iff.mp hx).1
      simpa using this
    rw [List.getElem?_map, List.getElem?_range hi] at hx hli
    have ex : V.int (i : Int) = x := by simpa using hx
    have el : ((List.range (n - (i + 1))).map fun (j : Nat) => ((i : Int), ((i + 1 + j : Nat) : Int))) = li := by simpa using hli
    subst ex
    subst el
    refine ⟨_, by simp, wk_R2 (m := i + 1) (n := n) S1 (by intro R_ q_; walk_at "rd"; exact q_) (by omega) (by omega), fun jj y z G2 M2 H2 hy hz E2 S2 Q' kk => ?_⟩
    have hj : jj < n - (i + 1) := by
      have := (List.getElem?_eq_some_iff.mp hz).1
      simpa using this
    rw [List.getElem?_map, List.getElem?_range hj] at hy hz
    have ey : V.int ((i + 1 + jj : Nat) : Int) = y := by simpa using hy
    have ez : ((i : Int), ((i + 1 + jj : Nat) : Int)) = z := by simpa using hz
    subst ey
    subst ez
    walk_at "rd"
    refine al_tup S2 (by walk_at "gv") (by simp [sizeLine_eq]) (fun p G3 H3 E3 S3 f3 => ?_)
    exact kk _ G3 H3 E3 S3 ⟨p, _, _, rfl, f3, rfl, rfl⟩
  · refine k _ G1 H1 E1 S1 ⟨p, acc, rfl, e, ?_⟩
    unfold scM
    rw [List.flatMap_def]
    exact al
def sp_is_apart : Sp := pureSp (fun (x : Cp × List Cp) vs G => ∃ v1 v2, vs = [v1, v2] ∧ rP x.1 v1 G ∧ rL rP x.2 v2 G) (fun x v _ => v = .bl (apartM x.1 x.2))
theorem ok_is_apart (T : Bt mg) (F : Dfn K mg "is_apart" s_is_apart) : Has P w K mg base 1 "is_apart" ["comparer", "layer"] sp_is_apart := by
  refine F.ok sc_is_apart (fun _ _ _ _ _ _ us hl => match us, hl with | [_, _], _ => rfl) (fun vs H Q E h => by obtain ⟨_, _, _, _, ⟨_, _, rfl, _⟩, _⟩ := h; rfl) (fun f cdv A outer s H vs Q E hr h => ?_)
  obtain ⟨G, M, ⟨c, l⟩, S, ⟨v1, v2, rfl, hc, ⟨b, xs, rfl, hb, al⟩⟩, k⟩ := h
  dsimp only at hc al
  obtain ⟨a, rfl, ha⟩ := rP_ti hc
  refine ⟨_, (pss_cons (ps_for PassesOwn.never rfl (piL K (pv 1)) (pgT K 2 rfl (pgs_cons (pg_name (i := 2) sc_is_apart.nd rfl (Or.inl rfl)) (pgs_cons (pg_name (i := 3) sc_is_apart.nd rfl (Or.inl rfl)) pgs_nil)))
     (pss_one (ps_if (PW.pt (pw_or (pt_cmpR (inK K) (pv 2) (pv 0) (by rfl)) (pw_or1 (pt_cmpR (inK K) (pv 3) (pv 0) (by rfl)))))
      (pss_one (ps_ret pe_bl))
      pss_nil)))
    (pss_one (ps_ret pe_bl))), ?_⟩
  walk_at "rd"
  refine loopL xs (fun i σ G' M' => ∃ z1 z2, σ = [some (.ref a), some (.ref b), z1, z2] ∧ G' = G ∧ M' = M ∧ apartM c (l.take i) = true) S (by walk_at "gv") ⟨_, _, rfl, rfl, rfl, rfl⟩ (fun i σ G' M' hI H' S' => ?_) (fun i x σ G' M' H' hx hI S' => ?_) (fun σ G' M' H' hI S' => ?_)
  · obtain ⟨_, _, rfl, rfl, _⟩ := hI
    exact S'.g _ _ hb
  · obtain ⟨z1, z2, rfl, rfl, rfl, hp⟩ := hI
    obtain ⟨q, eq, t, x1, y1, rfl, ht, hx1, hy1⟩ := al.at hx
    cases hx1
    cases hy1
    have eM : l = l.take i ++ q :: l.drop (i + 1) := by
      obtain ⟨h3, h4⟩ := List.getElem?_eq_some_iff.mp eq
      rw [← h4, ← List.drop_eq_getElem_cons, List.take_append_drop]
    walk_at "rd"
    refine rd_inI (.inl (S'.g _ _ ha)) ?_
    walk_at "rd"
    refine rd_ite (fun h0 => ?_) (fun h0 => ?_)
    · refine iteT ?_
      walk_at "rd"
      refine k _ _ _ (Same.refl _) S' ?_
      have : apartM c l = false := by
        rw [eM]
        unfold apartM
        rw [List.all_append, List.all_cons, decide_eq_true h0]
        simp
      show V.bl false = V.bl (apartM c l)
      rw [this]
    · walk_at "rd"
      refine rd_inI (.inl (S'.g _ _ ha)) ?_
      walk_at "rd"
      refine rd_ite (fun h1 => ?_) (fun h1 => ?_)
      · walk_at "rd"
        refine k _ _ _ (Same.refl _) S' ?_
        have : apartM c l = false := by
          rw [eM]
          unfold apartM
          rw [List.all_append, List.all_cons, decide_eq_true h1]
          simp
        show V.bl false = V.bl (apartM c l)
        rw [this]
      · walk_at "rd"
        refine ⟨_, _, S', _, _, rfl, rfl, rfl, ?_⟩
        rw [take_push eq]
        unfold apartM at hp ⊢
        rw [List.all_append, hp, List.all_cons, decide_eq_false h0, decide_eq_false h1]
        rfl
  · obtain ⟨z1, z2, rfl, rfl, rfl, hp⟩ := hI
    rw [al.len, List.take_length] at hp
    walk_at "rd"
    exact k _ _ _ (Same.refl _) S' (show V.bl true = V.bl (apartM c l) by rw [hp])
theorem slM_step (n i : Nat) (c : Cp) (h : (scM n).reverse[i]? = some c) :
    ((scM n).reverse.take (i + 1)).foldl (fun found c => [[c]] ++ ((found.filter (apartM c ·)).map (c :: ·)) ++ found) [] =
      [[c]] ++ (((((scM n).reverse.take i).foldl (fun found c => [[c]] ++ ((found.filter (apartM c ·)).map (c :: ·)) ++ found) []).filter (apartM c ·)).map (c :: ·)) ++ (((scM n).reverse.take i).foldl (fun found c => [[c]] ++ ((found.filter (apartM c ·)).map (c :: ·)) ++ found) []) := by
  rw [take_push h, List.foldl_append]
  rfl
theorem slM_sizes : ∀ n, n ≤ 4 → ∀ i, i ≤ 6 → (((scM n).reverse.take i).foldl (fun found c => [[c]] ++ ((found.filter (apartM c ·)).map (c :: ·)) ++ found) []).length ≤ 64 ∧
    ∀ l ∈ (((scM n).reverse.take i).foldl (fun found c => [[c]] ++ ((found.filter (apartM c ·)).map (c :: ·)) ++ found) []), l.length ≤ 8 := by decide +kernel
theorem scM_size : ∀ n, n ≤ 4 → (scM n).length ≤ 6 := by decide +kernel
def sp_standard_layers : Sp := pureSp (fun (n : Nat) vs _ => ∃ v, vs = [v] ∧ v = .int (n : Int) ∧ n ≤ 4) (fun n v G => rL (rL rP) (slM n) v G)
theorem ok_standard_layers (T : Bt mg) (F : Dfn K mg "standard_layers" s_standard_layers) (h_standard_comparers : Has P w K mg base 1 "standard_comparers" ["wires"] sp_standard_comparers)
    (h_is_apart : Has P w K mg base 1 "is_apart" ["comparer", "layer"] sp_is_apart) : Has P w K mg base 2 "standard_layers" ["wires"] sp_standard_layers := by
  refine F.ok sc_standard_layers (fun _ _ _ _ _ _ us hl => match us, hl with | [_], _ => rfl) (fun vs H Q E h => by obtain ⟨_, _, _, _, ⟨_, rfl, _⟩, _⟩ := h; rfl) (fun f cdv A outer s H vs Q E hr h => ?_)
  obtain ⟨G, M, n, S, ⟨v, rfl, rfl, hn⟩, k⟩ := h
  refine ⟨_, (pss_cons (ps_set (i := 1) sc_standard_layers.nd rfl (Or.inl rfl) (pe_lst pa_nil))
    (pss_cons (ps_for PassesOwn.never rfl (pi_reversed (by rfl) T.reversed (pa_cons (pe_fn h_standard_comparers hr (pa_cons (pv 0) pa_nil)) pa_nil)) (pg_name (i := 2) sc_standard_layers.nd rfl (Or.inr rfl))
     (pss_cons (ps_setLc (i := 3) (own := [("layer", 4)]) rfl sc_standard_layers.nd rfl rfl (sw_true rfl rfl rfl (by decide +kernel)) (piL K (pv 1)) (blkOk_by (N := ["wires", "found", "comparer", "longer", "layer"]) (sc := defScope s_standard_layers) (by decide +kernel)) (fun _ _ _ _ _ => (pg_name (i := 4) sc_standard_layers.nd rfl (Or.inl rfl))) (fun _ _ _ _ _ => (pts_one (pt_val (pe_fn h_is_apart hr (pa_cons (pv 2) (pa_cons (pv 4) pa_nil)))))) (fun _ _ _ _ _ => (pe_op op_cat (pe_lst (pa_cons (pv 2) pa_nil)) (pv 4))))
     (pss_one (ps_set (i := 1) sc_standard_layers.nd rfl (Or.inl rfl) (pe_op op_cat (pe_op op_cat (pe_lst (pa_cons (pe_lst (pa_cons (pv 2) pa_nil)) pa_nil)) (pv 3)) (pv 1))))))
    (pss_one (ps_ret (pv 1))))), ?_⟩
  walk_at "rd"
  refine al_lst S (by walk_at "gv") (Nat.zero_le _) (fun p0 G1 H1 E1 S1 f1 => ?_)
  walk_at "rd"
  apply rd_fV
  walk_at "rd"
  refine ⟨G1, M, n, S1, ⟨_, rfl, rfl, by omega⟩, fun v G2 H2 E2 S2 ⟨b, xs, eb, hb, al⟩ => ?_⟩
  subst eb
  have hsz := scM_size n hn
  have hxl : xs.length = (scM n).length := al.len
  refine loopV xs (fun i σ G' M' => ∃ a x y z, σ = [some (.int n), some (.ref a), x, y, z] ∧ Same G2 G' ∧ M' = M ∧ rL (rL rP) (((scM n).reverse.take i).foldl (fun found c => [[c]] ++ ((found.filter (apartM c ·)).map (c :: ·)) ++ found) []) (.ref a) G') S2 gv_cA
    ⟨p0, _, _, _, rfl, Same.refl _, rfl, p0, _, rfl, E2 _ _ f1, All2.nil⟩ (fun i σ G' M' hI H' S' => ?_) (fun i x σ G3 M3 H3 hi hx hI S3 => ?_) (fun σ G3 M3 H3 hI S3 => ?_)
  · obtain ⟨_, _, _, _, rfl, E3, _⟩ := hI
    exact S'.g _ _ (E3 _ _ hb)
  · obtain ⟨a, x1, y1, z1, rfl, E3, rfl, hfound⟩ := hI
    obtain ⟨c, ec, hc⟩ := al.at hx
    have ec2 : (scM n).reverse[i]? = some c := by
      rw [List.getElem?_reverse (by omega), ← hxl]
      exact ec
    have hst := slM_step n i c ec2
    have hs := slM_sizes n hn i (by omega)
    have hs2 := slM_sizes n hn (i + 1) (by omega)
    rw [hst] at hs2
    generalize hcur : ((scM n).reverse.take i).foldl (fun found c => [[c]] ++ ((found.filter (apartM c ·)).map (c :: ·)) ++ found) [] = cur at *
    obtain ⟨a2, fs, ea, fa, fl⟩ := hfound
    cases ea
    walk_at "rd"
    have e1 : (cur.map fun l => if apartM c l = true then some (c :: l) else none).filterMap id = (cur.filter (apartM c ·)).map (c :: ·) := by
      clear hs hs2 hcur hst fl
      induction cur with
      | nil => rfl
      | cons l t ih =>
        by_cases h : apartM c l = true
        · simp [h] at ih ⊢
          exact ih
        · simp [h] at ih ⊢
          exact ih
    refine compL (up_L up_P) (cur.map fun l => if apartM c l = true then some (c :: l) else none) S3 (by walk_at "gv") fa (by simp [fl.len]) (by simp [sizeLine_eq]; omega) (by intro _; rfl) (fun i1 x2 o G4 M4 H4 hx2 ho E4 S4 Q' kk => ?_) (fun i1 x2 y2 G4 M4 H4 hx2 ho E4 S4 Q' kk => ?_) (fun p acc G4 H4 E4 S4 f4 al4 => ?_)
    · obtain ⟨l, el, hl⟩ := fl.at hx2
      rw [List.getElem?_map, el] at ho
      have eo : (if apartM c l = true then some (c :: l) else none) = o := by simpa using ho
      subst eo
      walk_at "rd"
      refine ⟨G4, M4, (c, l), S4, ⟨_, _, rfl, up_P _ _ _ _ (E3.trans E4) hc, up_L up_P _ _ _ _ E4 hl⟩, fun v G5 H5 E5 S5 ev => ?_⟩
      dsimp only at ev
      subst ev
      walk_at "rd"
      have := kk G5 H5 E5 S5
      cases h : apartM c l <;> simpa [h] using this
    · obtain ⟨l, el, hl⟩ := fl.at hx2
      rw [List.getElem?_map, el] at ho
      have eo : (if apartM c l = true then some (c :: l) else none) = some y2 := by simpa using ho
      by_cases h : apartM c l = true
      · rw [if_pos h] at eo
        cases eo
        have hll := hs.2 l (List.mem_of_getElem? el)
        obtain ⟨b2, ls, eb2, hb2, hls⟩ := hl
        cases eb2
        walk_at "rd"
        refine al_lst S4 (by walk_at "gv") (by simp [sizeLine_eq]) (fun p1 G5 H5 E5 S5 f5 => ?_)
        walk_at "rd"
        refine al_cat S5 (S5.g _ _ f5) (S5.g _ _ (E5 _ _ (E4 _ _ hb2))) (by simp [sizeLine_eq, hls.len]; omega) (fun p2 G6 H6 E6 S6 f6 => ?_)
        exact kk _ G6 H6 (E5.trans E6) S6 ⟨p2, _, rfl, f6, All2.cons (up_P _ _ _ _ (((E3.trans E4).trans E5).trans E6) hc) (hls.up up_P ((E4.trans E5).trans E6))⟩
      · rw [if_neg h] at eo
        cases eo
    · walk_at "rd"
      apply rd_lst
      walk_at "rd"
      refine al_lst S4 (by walk_at "gv") (by simp [sizeLine_eq]) (fun p1 G5 H5 E5 S5 f5 => ?_)
      walk_at "rd"
      refine ⟨by simp [sizeLine_eq], fun p2 hp2 => ?_⟩
      obtain ⟨G6, E6, S6, f6⟩ := S5.addG (o := .lst [.ref p1]) hp2
      rw [e1] at al4
      have hla := al4.len
      have hlb := fl.len
      have h64 := hs2.1
      simp only [List.length_append, List.length_map] at h64 hla
      simp at h64
      walk_at "rd"
      refine al_cat S6 (S6.g _ _ f6) (S6.g _ _ (E6 _ _ (E5 _ _ f4))) (by simp [sizeLine_eq, hla]; omega) (fun p3 G7 H7 E7 S7 f7 => ?_)
      walk_at "rd"
      have fa7 := E7 _ _ (E6 _ _ (E5 _ _ (E4 _ _ fa)))
      refine al_cat S7 (S7.g _ _ f7) (S7.g _ _ fa7) (by simp [sizeLine_eq, hla, hlb]; omega) (fun p4 G8 H8 E8 S8 f8 => ?_)
      walk_at "rd"
      refine ⟨G8, _, S8, p4, _, _, _, rfl, ((((E3.trans E4).trans E5).trans E6).trans E7).trans E8, rfl, p4, _, rfl, f8, ?_⟩
      have E58 := (E6.trans E7).trans E8
      rw [hst]
      refine All2.append (All2.append (All2.nil.cons ?_) (al4.up (up_L up_P) (E5.trans E58))) (fl.up (up_L up_P) ((E4.trans E5).trans E58))
      exact ⟨p1, _, rfl, E58 _ _ f5, All2.nil.cons (up_P _ _ _ _ ((E3.trans E4).trans (E5.trans E58)) hc)⟩
  · obtain ⟨a, x1, y1, z1, rfl, E3, rfl, hfound⟩ := hI
    walk_at "rd"
    refine k _ G3 H3 (E1.trans (E2.trans E3)) S3 ?_
    rw [hxl, List.take_of_length_le (by simp)] at hfound
    exact hfound
end
end N
/-! NG: the levels of a paper -/
namespace N
open PySem L2
abbrev rEnt : Ent → V → Hp → Prop := r2 rZ rTI
abbrev rPt : Pt → V → Hp → Prop := r2 (rT rTI) (rT rEnt)
abbrev rLv : Lv → V → Hp → Prop := rT rPt
theorem up_Ent : Up rEnt := up_2 up_Z up_TI
theorem up_Pt : Up rPt := up_2 (up_T up_TI) (up_T up_Ent)
theorem up_Lv : Up rLv := up_T up_Pt
section
variable {P : Program} {w : World} {K : PySem.W.Frag} {mg : Str → Option Value} {base : Heap}
def sp_has_states : Sp := pureSp (fun (x : Int × List Lv) vs G => ∃ v1 v2, vs = [v1, v2] ∧ v1 = .int x.1 ∧ rT rLv x.2 v2 G) (fun x v _ => ∃ b, v = .bl b ∧ (b = true → ∀ l ∈ x.2, l ≠ [] ∧ ∀ p ∈ l, StOk x.1 p.1))
theorem ok_has_states (T : Bt mg) (F : Dfn K mg "has_states" s_has_states) (h_is_state : Has P w K mg base 2 "is_state" ["wires", "rows"] sp_is_state) : Has P w K mg base 3 "has_states" ["wires", "levels"] sp_has_states := by
  refine F.ok sc_has_states (fun _ _ _ _ _ _ us hl => match us, hl with | [_, _], _ => rfl) (fun vs H Q E h => by obtain ⟨_, _, _, _, ⟨_, _, rfl, _⟩, _⟩ := h; rfl) (fun f cdv A outer s H vs Q E hr h => ?_)
  obtain ⟨G, M, ⟨n, ls⟩, S, ⟨v1, v2, rfl, rfl, ⟨a, xs, rfl, ha, al⟩⟩, k⟩ := h
  dsimp only at k al
  refine ⟨_, (pss_cons (ps_for PassesOwn.never rfl (piT K (pv 1)) (pg_name (i := 2) sc_has_states.nd rfl (Or.inl rfl))
     (pss_cons (ps_if (pt_cmpR op_eq (pe_callB (lenS K) (by rfl) T.len PySem.boot_len (pa_cons (pv 2) pa_nil)) pe_int (nomark _))
      (pss_one (ps_ret pe_bl))
      pss_nil)
     (pss_one (ps_for PassesOwn.never rfl (piT K (pv 2)) (pgT K 2 rfl (pgs_cons (pg_name (i := 3) sc_has_states.nd rfl (Or.inl rfl)) (pgs_cons (pg_name (i := 4) sc_has_states.nd rfl (Or.inl rfl)) pgs_nil)))
      (pss_one (ps_if (pt_not (pt_val (pe_fn h_is_state hr (pa_cons (pv 0) (pa_cons (pv 3) pa_nil)))))
       (pss_one (ps_ret pe_bl))
       pss_nil))))))
    (pss_one (ps_ret pe_bl))), ?_⟩
  walk_at "rd"
  refine loopT xs (fun i σ G' M' => ∃ z1 z2 z3, σ = [some (.int n), some (.ref a), z1, z2, z3] ∧ Same G G' ∧ M' = M ∧ ∀ l ∈ ls.take i, l ≠ [] ∧ ∀ p ∈ l, StOk n p.1) S (by walk_at "gv") ⟨_, _, _, rfl, Same.refl _, rfl, by simp⟩ (fun i σ G' M' hI H' S' => ?_) (fun i x σ G' M' H' hx hI S' => ?_) (fun σ G' M' H' hI S' => ?_)
  · obtain ⟨_, _, _, rfl, E1, _⟩ := hI
    exact S'.g _ _ (E1 _ _ ha)
  · obtain ⟨z1, z2, z3, rfl, E1, rfl, hp⟩ := hI
    obtain ⟨l, el, b, ys, rfl, hb, bl⟩ := al.at hx
    have hb2 := E1 _ _ hb
    walk_at "rd"
    refine rd_ite (fun h0 => ?_) (fun h0 => ?_)
    · walk_at "rd"
      exact k _ G' H' E1 S' ⟨false, rfl, nofun⟩
    · walk_at "rd"
      refine loopT ys (fun j σ G2 M2 => ∃ z2 z3, σ = [some (.int n), some (.ref a), some (.ref b), z2, z3] ∧ Same G' G2 ∧ M2 = M' ∧ ∀ p ∈ l.take j, StOk n p.1) S' (by walk_at "gv") ⟨_, _, rfl, Same.refl _, rfl, by simp⟩ (fun j σ G2 M2 hI H2 S2 => ?_) (fun j x σ G2 M2 H2 hx2 hI S2 => ?_) (fun σ G2 M2 H2 hI S2 => ?_)
      · obtain ⟨_, _, rfl, E2, _⟩ := hI
        exact S2.g _ _ (E2 _ _ hb2)
      · obtain ⟨z2, z3, rfl, E2, rfl, hp2⟩ := hI
        obtain ⟨p, ep, t, x1, y1, rfl, ht, hx1, hy1⟩ := bl.at hx2
        have ht2 := E2 _ _ (E1 _ _ ht)
        walk_at "rd"
        refine ⟨G2, _, (n, p.1), S2, ⟨_, _, rfl, rfl, up_T up_TI _ _ _ _ (E1.trans E2) hx1⟩, fun v G3 H3 E3 S3 ⟨c, ec, hc⟩ => ?_⟩
        subst ec
        walk_at "rd"
        refine rd_iteN (fun h1 => ?_) (fun h1 => ?_)
        · walk_at "rd"
          exact k _ G3 H3 (E1.trans (E2.trans E3)) S3 ⟨false, rfl, nofun⟩
        · walk_at "rd"
          refine ⟨G3, _, S3, _, _, rfl, E2.trans E3, rfl, fun y hy => ?_⟩
          rw [take_push ep] at hy
          rcases List.mem_append.mp hy with hy | hy
          · exact hp2 y hy
          · rw [List.mem_singleton.mp hy]; exact hc h1
      · obtain ⟨z2, z3, rfl, E2, rfl, hp2⟩ := hI
        rw [bl.len, List.take_length] at hp2
        refine ⟨G2, _, S2, _, _, _, rfl, E1.trans E2, rfl, fun y hy => ?_⟩
        rw [take_push el] at hy
        rcases List.mem_append.mp hy with hy | hy
        · exact hp y hy
        · rw [List.mem_singleton.mp hy]
          refine ⟨fun e => h0 ?_, hp2⟩
          rw [bl.len, e]
          rfl
  · obtain ⟨z1, z2, z3, rfl, E1, rfl, hp⟩ := hI
    rw [al.len, List.take_length] at hp
    walk_at "rd"
    exact k _ G' H' E1 S' ⟨true, rfl, fun _ => hp⟩
def sp_begins_whole : Sp := pureSp (fun (x : Nat × Lv) vs G => ∃ v1 v2, vs = [v1, v2] ∧ v1 = .int (x.1 : Int) ∧ x.1 ≤ 8 ∧ rLv x.2 v2 G) (fun x v _ => ∃ b, v = .bl b ∧ (b = true → ∃ p, x.2 = [p] ∧ p.1 = plainM x.1))
theorem ok_begins_whole (T : Bt mg) (F : Dfn K mg "begins_whole" s_begins_whole) (h_plain_rows : Has P w K mg base 1 "plain_rows" ["wires"] sp_plain_rows) : Has P w K mg base 2 "begins_whole" ["wires", "level"] sp_begins_whole := by
  refine F.ok sc_begins_whole (fun _ _ _ _ _ _ us hl => match us, hl with | [_, _], _ => rfl) (fun vs H Q E h => by obtain ⟨_, _, _, _, ⟨_, _, rfl, _⟩, _⟩ := h; rfl) (fun f cdv A outer s H vs Q E hr h => ?_)
  obtain ⟨G, M, ⟨n, l⟩, S, ⟨v1, v2, rfl, rfl, hn, ⟨a, xs, rfl, ha, al⟩⟩, k⟩ := h
  dsimp only at k al hn
  refine ⟨_, (pss_one (ps_ret (pe_and (pe_cmpR op_eq (pe_callB (lenS K) (by rfl) T.len PySem.boot_len (pa_cons (pv 1) pa_nil)) pe_int (nomark _)) (pe_one (pe_cmpR (eqDK K (hu := hr.units)) (pe_callTy (lstO K) (by rfl) T.list (by decide +kernel) (pa_cons (pe_ix (ixT K) (pe_ix (ixT K) (pv 1) pe_int (fun _ _ => rfl)) pe_int (fun _ _ => rfl)) pa_nil)) (pe_fn h_plain_rows hr (pa_cons (pv 0) pa_nil)) (nomark _)))))), ?_⟩
  walk_at "rd"
  refine rd_ite (fun h0 => ?_) (fun h0 => ?_)
  · have hxl : xs.length = 1 := by omega
    obtain ⟨x0, rfl⟩ : ∃ x, xs = [x] := List.length_eq_one_iff.mp hxl
    obtain ⟨p, ep, t, x1, y1, rfl, ht, hx1, hy1⟩ := al.at (i := 0) rfl
    have el : l = [p] := by
      have h2 : l.length = 1 := by rw [← al.len]; rfl
      obtain ⟨q, rfl⟩ := List.length_eq_one_iff.mp h2
      cases ep
      rfl
    obtain ⟨b, ys, rfl, hb, bl⟩ := hx1
    walk_at "rd"
    refine al_lsT S (S.g _ _ hb) (fun d G1 H1 E1 S1 f1 => ?_)
    walk_at "rd"
    refine ⟨G1, M, n, S1, ⟨_, rfl, rfl, hn⟩, fun v G2 H2 E2 S2 ⟨c, zs, ec, hc, cl⟩ => ?_⟩
    subst ec
    refine ⟨.list (p.1.map dT), .list ((plainM n).map dT), dp_lrows S2 (E2 _ _ f1) (bl.up up_TI (E1.trans E2)), dp_lrows S2 hc cl, sh_rows _, sh_rows _, ?_⟩
    refine k _ G2 H2 (E1.trans E2) S2 ⟨_, rfl, fun h => ⟨p, el, ?_⟩⟩
    rw [PyData.eqv, eqv_rows, decide_eq_true_eq] at h
    exact h
  · walk_at "rd"
    exact k _ G H (Same.refl _) S ⟨false, rfl, nofun⟩
def sp_ends_unsettled : Sp := pureSp (fun (x : Lv) vs G => ∃ v1, vs = [v1] ∧ rLv x v1 G ∧ LvOk x) (fun x v _ => ∃ b, v = .bl b ∧ (b = true → ∀ p ∈ x, unsettledM p.1))
theorem ok_ends_unsettled (T : Bt mg) (F : Dfn K mg "ends_unsettled" s_ends_unsettled) (h_is_unsettled : Has P w K mg base 2 "is_unsettled" ["state"] sp_is_unsettled) : Has P w K mg base 3 "ends_unsettled" ["level"] sp_ends_unsettled := by
  refine F.ok sc_ends_unsettled (fun _ _ _ _ _ _ us hl => match us, hl with | [_], _ => rfl) (fun vs H Q E h => by obtain ⟨_, _, _, _, ⟨_, rfl, _⟩, _⟩ := h; rfl) (fun f cdv A outer s H vs Q E hr h => ?_)
  obtain ⟨G, M, l, S, ⟨v1, rfl, ⟨a, xs, rfl, ha, al⟩, hok⟩, k⟩ := h
  refine ⟨_, (pss_cons (ps_for PassesOwn.never rfl (piT K (pv 0)) (pgT K 2 rfl (pgs_cons (pg_name (i := 1) sc_ends_unsettled.nd rfl (Or.inl rfl)) (pgs_cons (pg_name (i := 2) sc_ends_unsettled.nd rfl (Or.inl rfl)) pgs_nil)))
     (pss_one (ps_if (PW.pt (pw_or (pt_cmpR op_gt (pe_callB (lenS K) (by rfl) T.len PySem.boot_len (pa_cons (pv 2) pa_nil)) pe_int (nomark _)) (pw_or1 (pt_not (pt_val (pe_fn h_is_unsettled hr (pa_cons (pv 1) pa_nil)))))))
      (pss_one (ps_ret pe_bl))
      pss_nil)))
    (pss_one (ps_ret pe_bl))), ?_⟩
  walk_at "rd"
  refine loopT xs (fun i σ G' M' => ∃ z1 z2, σ = [some (.ref a), z1, z2] ∧ Same G G' ∧ M' = M ∧ ∀ p ∈ l.take i, unsettledM p.1) S (by walk_at "gv") ⟨_, _, rfl, Same.refl _, rfl, by simp⟩ (fun i σ G' M' hI H' S' => ?_) (fun i x σ G' M' H' hx hI S' => ?_) (fun σ G' M' H' hI S' => ?_)
  · obtain ⟨_, _, rfl, E1, _⟩ := hI
    exact S'.g _ _ (E1 _ _ ha)
  · obtain ⟨z1, z2, rfl, E1, rfl, hp⟩ := hI
    obtain ⟨p, ep, t, x1, y1, rfl, ht, hx1, ⟨b, ys, rfl, hb, bl⟩⟩ := al.at hx
    have hpk := hok p (List.mem_of_getElem? ep)
    have ht2 := E1 _ _ ht
    have hb2 := E1 _ _ hb
    walk_at "rd"
    refine rd_ite (fun h0 => ?_) (fun h0 => ?_)
    · refine iteT ?_
      walk_at "rd"
      exact k _ G' H' E1 S' ⟨false, rfl, nofun⟩
    · walk_at "rd"
      refine ⟨G', _, p.1, S', ⟨_, rfl, up_T up_TI _ _ _ _ E1 hx1, hpk.1, hpk.2.1⟩, fun v G2 H2 E2 S2 ⟨c, ec, hc⟩ => ?_⟩
      subst ec
      walk_at "rd"
      refine rd_iteN (fun h1 => ?_) (fun h1 => ?_)
      · walk_at "rd"
        exact k _ G2 H2 (E1.trans E2) S2 ⟨false, rfl, nofun⟩
      · walk_at "rd"
        refine ⟨G2, _, S2, _, _, rfl, E1.trans E2, rfl, fun y hy => ?_⟩
        rw [take_push ep] at hy
        rcases List.mem_append.mp hy with hy | hy
        · exact hp y hy
        · rw [List.mem_singleton.mp hy]; exact hc h1
  · obtain ⟨z1, z2, rfl, E1, rfl, hp⟩ := hI
    rw [al.len, List.take_length] at hp
    walk_at "rd"
    exact k _ G' H' E1 S' ⟨true, rfl, fun _ => hp⟩
end
end N
/-! NH: leads_on, shows_need -/
namespace N
open PySem L2
theorem perm_in {ns : Row} (h : Perm0 ns) : ∀ n ∈ ns, 0 ≤ n ∧ n < ns.length := fun n hn => by
  have h2 := h.mem_iff.mp hn
  obtain ⟨i, hi, e⟩ := List.mem_map.mp h2
  have := List.mem_range.mp hi
  omega
theorem at_rel {α : Type} {R : α → V → Hp → Prop} {G : Hp} {l : List α} {xs : List V} (al : All2 R G l xs) {i : Int} (h0 : 0 ≤ i) (h1 : i < xs.length) : ∃ x v, l[i.toNat]? = some x ∧ atI xs i = some v ∧ R x v G := by
  have hi : i.toNat < xs.length := by omega
  have e1 : xs[i.toNat]? = some xs[i.toNat] := List.getElem?_eq_getElem hi
  obtain ⟨x, ex, hx⟩ := al.at e1
  exact ⟨x, _, ex, at_of (by omega) e1, hx⟩
section
variable {P : Program} {w : World} {K : PySem.W.Frag} {mg : Str → Option Value} {base : Heap}
def StepsOk (n : Nat) (sts : List (List Cp)) : Prop := ∀ st ∈ sts, ∀ c ∈ st, CpIn n c
def sp_leads_on : Sp := pureSp (fun (x : Nat × Pt × Lv × List (List Cp)) vs G => ∃ v1 v2 v3 v4, vs = [v1, v2, v3, v4] ∧ v1 = .int (x.1 : Int) ∧ rPt x.2.1 v2 G ∧ rLv x.2.2.1 v3 G ∧ rL (rL rP) x.2.2.2 v4 G ∧
    StOk x.1 x.2.1.1 ∧ PtOk x.2.1 ∧ (∀ q ∈ x.2.2.1, StOk x.1 q.1) ∧ StepsOk x.1 x.2.2.2 ∧ x.1 ≤ 8)
  (fun x v _ => ∃ b, v = .bl b ∧ (b = true → LeadOk x.1 x.2.1 x.2.2.1 x.2.2.2))
theorem ok_leads_on (T : Bt mg) (F : Dfn K mg "leads_on" s_leads_on) (h_is_renaming : Has P w K mg base 1 "is_renaming" ["wires", "names"] sp_is_renaming) (h_is_covered : Has P w K mg base 2 "is_covered" ["rows", "state", "names"] sp_is_covered)
    (h_results : Has P w K mg base 2 "results" ["rows", "comparers"] sp_results) : Has P w K mg base 3 "leads_on" ["wires", "pair", "following", "steps"] sp_leads_on := by
  refine F.ok sc_leads_on (fun _ _ _ _ _ _ us hl => match us, hl with | [_, _, _, _], _ => rfl) (fun vs H Q E h => by obtain ⟨_, _, _, _, ⟨_, _, _, _, rfl, _⟩, _⟩ := h; rfl) (fun f cdv A outer s H vs Q E hr h => ?_)
  obtain ⟨G, M, ⟨n, p, fol, sts⟩, S, ⟨v1, v2, v3, v4, rfl, rfl, ⟨t, x1, y1, rfl, ht, hx1, ⟨b, ys, rfl, hb, bl⟩⟩, ⟨c, fs, rfl, hc, fl⟩, ⟨d, ss, rfl, hd, sl⟩, hst, hpk, hfol, hsts, hn⟩, k⟩ := h
  dsimp only at k bl hx1 hb hst hpk hfol hsts hn fl sl
  refine ⟨_, (pss_cons (ps_asg (pv 1) (pgT K 2 rfl (pgs_cons (pg_name (i := 4) sc_leads_on.nd rfl (Or.inl rfl)) (pgs_cons (pg_name (i := 5) sc_leads_on.nd rfl (Or.inl rfl)) pgs_nil))))
    (pss_cons (ps_if (pt_cmpR op_ne (pe_callB (lenS K) (by rfl) T.len PySem.boot_len (pa_cons (pv 5) pa_nil)) (pe_callB (lenS K) (by rfl) T.len PySem.boot_len (pa_cons (pv 3) pa_nil)) (nomark _))
     (pss_one (ps_ret pe_bl))
     pss_nil)
    (pss_cons (ps_for PassesOwn.never rfl (pi_enum (by rfl) T.enumerate (pa_cons (pv 3) pa_nil)) (pgT K 2 rfl (pgs_cons (pg_name (i := 6) sc_leads_on.nd rfl (Or.inl rfl)) (pgs_cons (pg_name (i := 7) sc_leads_on.nd rfl (Or.inl rfl)) pgs_nil)))
     (pss_cons (ps_asg (pe_ix (ixT K) (pv 5) (pv 6) (fun _ _ => rfl)) (pgT K 2 rfl (pgs_cons (pg_name (i := 8) sc_leads_on.nd rfl (Or.inl rfl)) (pgs_cons (pg_name (i := 9) sc_leads_on.nd rfl (Or.inl rfl)) pgs_nil))))
     (pss_cons (ps_if (PW.pt (pw_or (pt_not (pt_chain op_le op_lt pe_int (pv 8) (pe_callB (lenS K) (by rfl) T.len PySem.boot_len (pa_cons (pv 2) pa_nil)))) (pw_or1 (pt_not (pt_val (pe_fn h_is_renaming hr (pa_cons (pv 0) (pa_cons (pv 9) pa_nil))))))))
      (pss_one (ps_ret pe_bl))
      pss_nil)
     (pss_one (ps_if (pt_not (pt_val (pe_fn h_is_covered hr (pa_cons (pe_fn h_results hr (pa_cons (pv 4) (pa_cons (pv 7) pa_nil))) (pa_cons (pe_ix (ixT K) (pe_ix (ixT K) (pv 2) (pv 8) (fun _ _ => rfl)) pe_int (fun _ _ => rfl)) (pa_cons (pv 9) pa_nil))))))
      (pss_one (ps_ret pe_bl))
      pss_nil)))))
    (pss_one (ps_ret pe_bl))))), ?_⟩
  walk_at "rd"
  refine rd_ite (fun h0 => ?_) (fun h0 => ?_)
  · walk_at "rd"
    exact k _ G H (Same.refl _) S ⟨false, rfl, nofun⟩
  · have hlen : p.2.length = sts.length := by
      have e1 := bl.len
      have e2 := sl.len
      omega
    walk_at "rd"
    refine loopE ss (fun i σ G' M' => ∃ z1 z2 z3 z4, σ = [some (.int n), some (.ref t), some (.ref c), some (.ref d), some x1, some (.ref b), z1, z2, z3, z4] ∧ Same G G' ∧ M' = M ∧
      ∀ (kk : Nat) (st : List Cp), kk < i → sts[kk]? = some st → ∃ (idx : Int) (names : Row) (q : Pt), p.2[kk]? = some (idx, names) ∧ (names.length : Int) = n ∧ Perm0 names ∧ 0 ≤ idx ∧ fol[idx.toNat]? = some q ∧ ∀ r ∈ q.1, renamedM r names ∈ p.1.map fun r => passedM r st)
      S (by walk_at "gv") ⟨_, _, _, _, rfl, Same.refl _, rfl, fun kk st h => absurd h (Nat.not_lt_zero _)⟩ (fun i σ G' M' hI H' S' => ?_) (fun i x σ G' M' H' T' hx hI S' hT => ?_) (fun i σ G1 G2 M1 hI E2 => ?_) (fun σ G' M' H' hI S' => ?_)
    · obtain ⟨_, _, _, _, rfl, E1, _⟩ := hI
      exact S'.g _ _ (E1 _ _ hd)
    · obtain ⟨z1, z2, z3, z4, rfl, E1, rfl, hp⟩ := hI
      obtain ⟨st, est, hst2⟩ := sl.at hx
      have hi : i < ys.length := by
        have h1 := (List.getElem?_eq_some_iff.mp hx).1
        have e1 := bl.len
        have e2 := sl.len
        omega
      have ey : ys[i]? = some ys[i] := List.getElem?_eq_getElem hi
      obtain ⟨en, een, te, xe, ye, eye, hte, hxe, hye⟩ := bl.at ey
      cases hxe
      obtain ⟨idx, names⟩ := en
      dsimp only at hte hye
      rw [eye] at ey
      have hte2 := E1 _ _ hte
      have hb2 := E1 _ _ hb
      have hc2 := E1 _ _ hc
      walk_at "rd"
      have hbad : ∀ Gx Hx, Same G Gx → Hs Gx M' Hx → Q (.bl false) Hx := fun Gx Hx Ex Sx => k _ Gx Hx Ex Sx ⟨false, rfl, nofun⟩
      refine rd_ite (fun h1 => ?_) (fun h1 => ?_)
      · walk_at "rd"
        by_cases h2 : idx < fs.length
        · rw [decide_eq_true h2]
          refine iteF ?_
          walk_at "rd"
          have hnl : names.length ≤ 4000 := hpk.2.2 (idx, names) (List.mem_of_getElem? een)
          refine ⟨G', _, (n, names), S', ⟨_, _, rfl, rfl, up_TI _ _ _ _ E1 hye, hnl⟩, fun v G2 H2 E2 S2 ⟨c1, ec1, hc1⟩ => ?_⟩
          subst ec1
          walk_at "rd"
          refine rd_iteN (fun h3 => ?_) (fun h3 => ?_)
          · walk_at "rd"
            exact hbad G2 H2 (E1.trans E2) S2
          · obtain ⟨hnn, hperm⟩ := hc1 h3
            have hperm : Perm0 names := hperm
            obtain ⟨q, vq, eq, eat, tq, xq, yq, rfl, htq, hxq, hyq⟩ := at_rel fl h1 h2
            have hq := hfol q (List.mem_of_getElem? eq)
            have htq2 := E2 _ _ (E1 _ _ htq)
            have hc3 := E2 _ _ hc2
            have hnn2 : names.length = n := by dsimp only at hnn; omega
            walk_at "rd"
            refine ⟨G2, _, (p.1, st), S2, ⟨_, _, rfl, up_T up_TI _ _ _ _ (E1.trans E2) hx1, up_L up_P _ _ _ _ (E1.trans E2) hst2, hpk.1, fun r hr c hc => ?_⟩, fun v G3 H3 E3 S3 hv => ?_⟩
            · have h5 := hsts st (List.mem_of_getElem? est) c hc
              have h6 := (hst.1 r hr).1
              have h7 : r.length = n := by omega
              rw [h7]
              exact h5
            · have htq3 := E3 _ _ htq2
              have hc4 := E3 _ _ hc3
              dsimp only at hv
              walk_at "rd"
              refine ⟨G3, _, (p.1.map fun r => passedM r st, q.1, names), S3, ⟨_, _, _, rfl, hv, up_T up_TI _ _ _ _ ((E1.trans E2).trans E3) hxq, up_TI _ _ _ _ ((E1.trans E2).trans E3) hye, hnl, fun r hr => ?_, perm_in hperm⟩, fun v G4 H4 E4 S4 ⟨c2, ec2, hc2⟩ => ?_⟩
              · have h6 := (hq.1 r hr).1
                dsimp only
                omega
              · subst ec2
                have E14 := ((E1.trans E2).trans E3).trans E4
                walk_at "rd"
                refine rd_iteN (fun h4 => ?_) (fun h4 => ?_)
                · walk_at "rd"
                  exact hbad G4 H4 E14 S4
                · walk_at "rd"
                  refine ⟨G4, _, S4, _, _, _, _, rfl, E14, rfl, fun kk st' hk hs' => ?_⟩
                  rcases Nat.lt_succ_iff_lt_or_eq.mp hk with hk | rfl
                  · exact hp kk st' hk hs'
                  · rw [est] at hs'
                    cases hs'
                    exact ⟨idx, names, q, een, by omega, hperm, h1, eq, hc2 h4⟩
        · rw [decide_eq_false h2]
          refine iteT ?_
          walk_at "rd"
          exact hbad G' H' E1 S'
      · walk_at "rd"
        refine iteT ?_
        walk_at "rd"
        exact hbad G' H' E1 S'
    · obtain ⟨z1, z2, z3, z4, rfl, E1, rfl, hp⟩ := hI
      exact ⟨_, _, _, _, rfl, E1.trans E2, rfl, hp⟩
    · obtain ⟨z1, z2, z3, z4, rfl, E1, rfl, hp⟩ := hI
      walk_at "rd"
      refine k _ G' H' E1 S' ⟨true, rfl, fun _ => ⟨hlen, fun kk st hs => hp kk st ?_ hs⟩⟩
      have h1 := (List.getElem?_eq_some_iff.mp hs).1
      rw [sl.len]
      exact h1
def sp_shows_need : Sp := pureSp (fun (x : Nat × List Lv × List (List Cp)) vs G => ∃ v1 v2 v3, vs = [v1, v2, v3] ∧ v1 = .int (x.1 : Int) ∧ rT rLv x.2.1 v2 G ∧ rL (rL rP) x.2.2 v3 G ∧
    (∀ l ∈ x.2.1, LvOk l) ∧ StepsOk x.1 x.2.2 ∧ x.1 ≤ 8 ∧ x.2.1.length ≤ 4000)
  (fun x v _ => ∃ b, v = .bl b ∧ (b = true → NeedOk x.1 x.2.1 x.2.2))
theorem ok_shows_need (T : Bt mg) (F : Dfn K mg "shows_need" s_shows_need) (h_has_states : Has P w K mg base 3 "has_states" ["wires", "levels"] sp_has_states) (h_begins_whole : Has P w K mg base 2 "begins_whole" ["wires", "level"] sp_begins_whole)
    (h_leads_on : Has P w K mg base 3 "leads_on" ["wires", "pair", "following", "steps"] sp_leads_on) (h_ends_unsettled : Has P w K mg base 3 "ends_unsettled" ["level"] sp_ends_unsettled) : Has P w K mg base 4 "shows_need" ["wires", "levels", "steps"] sp_shows_need := by
  refine F.ok sc_shows_need (fun _ _ _ _ _ _ us hl => match us, hl with | [_, _, _], _ => rfl) (fun vs H Q E h => by obtain ⟨_, _, _, _, ⟨_, _, _, rfl, _⟩, _⟩ := h; rfl) (fun f cdv A outer s H vs Q E hr h => ?_)
  obtain ⟨G, M, ⟨n, ls, sts⟩, S, ⟨v1, v2, v3, rfl, rfl, ⟨a, xs, rfl, ha, al⟩, hsteps, hlv, hsts, hn, hsz⟩, k⟩ := h
  dsimp only at k al hsteps hlv hsts hn hsz
  refine ⟨_, (pss_cons (ps_if (pt_cmpR op_eq (pe_callB (lenS K) (by rfl) T.len PySem.boot_len (pa_cons (pv 1) pa_nil)) pe_int (nomark _))
     (pss_one (ps_ret pe_bl))
     pss_nil)
    (pss_cons (ps_if (PW.pt (pw_or (pt_not (pt_val (pe_fn h_has_states hr (pa_cons (pv 0) (pa_cons (pv 1) pa_nil))))) (pw_or1 (pt_not (pt_val (pe_fn h_begins_whole hr (pa_cons (pv 0) (pa_cons (pe_ix (ixT K) (pv 1) pe_int (fun _ _ => rfl)) pa_nil))))))))
     (pss_one (ps_ret pe_bl))
     pss_nil)
    (pss_cons (ps_for PassesOwn.never rfl (pi_range1 (by rfl) T.range (pa_cons (pe_op op_sub (pe_callB (lenS K) (by rfl) T.len PySem.boot_len (pa_cons (pv 1) pa_nil)) pe_int) pa_nil)) (pg_name (i := 3) sc_shows_need.nd rfl (Or.inl rfl))
     (pss_one (ps_for PassesOwn.never rfl (piT K (pe_ix (ixT K) (pv 1) (pv 3) (fun _ _ => rfl))) (pg_name (i := 4) sc_shows_need.nd rfl (Or.inl rfl))
      (pss_one (ps_if (pt_not (pt_val (pe_fn h_leads_on hr (pa_cons (pv 0) (pa_cons (pv 4) (pa_cons (pe_ix (ixT K) (pv 1) (pe_op op_add (pv 3) pe_int) (fun _ _ => rfl)) (pa_cons (pv 2) pa_nil)))))))
       (pss_one (ps_ret pe_bl))
       pss_nil)))))
    (pss_one (ps_ret (pe_fn h_ends_unsettled hr (pa_cons (pe_ix (ixT K) (pv 1) (pe_un un_neg pe_int) (fun _ _ => rfl)) pa_nil))))))), ?_⟩
  have hxl : xs.length = ls.length := al.len
  walk_at "rd"
  refine rd_ite (fun h0 => ?_) (fun h0 => ?_)
  · walk_at "rd"
    exact k _ G H (Same.refl _) S ⟨true, rfl, fun _ => .inl (List.length_eq_zero_iff.mp (by omega))⟩
  · walk_at "rd"
    refine ⟨G, M, (n, ls), S, ⟨_, _, rfl, rfl, a, xs, rfl, ha, al⟩, fun v G1 H1 E1 S1 ⟨c1, ec1, hc1⟩ => ?_⟩
    subst ec1
    have hbad : ∀ Gx Hx, Same G Gx → Hs Gx M Hx → Q (.bl false) Hx := fun Gx Hx Ex Sx => k _ Gx Hx Ex Sx ⟨false, rfl, nofun⟩
    walk_at "rd"
    refine rd_iteN (fun h1 => ?_) (fun h1 => ?_)
    · walk_at "rd"
      exact hbad G1 H1 E1 S1
    · have hst := hc1 h1
      dsimp only at hst
      have h00 : xs[0]? = some (xs[0]'(by omega)) := List.getElem?_eq_getElem (by omega)
      obtain ⟨l0, el0, hl0⟩ := al.at h00
      have hat0 : atI xs 0 = some (xs[0]'(by omega)) := at_of (j := 0) rfl h00
      walk_at "rd"
      refine ⟨G1, M, (n, l0), S1, ⟨_, _, rfl, rfl, hn, up_Lv _ _ _ _ E1 hl0⟩, fun v G2 H2 E2 S2 ⟨c2, ec2, hc2⟩ => ?_⟩
      subst ec2
      walk_at "rd"
      refine rd_iteN (fun h2 => ?_) (fun h2 => ?_)
      · walk_at "rd"
        exact hbad G2 H2 (E1.trans E2) S2
      · obtain ⟨p0, ep0, hp0⟩ := hc2 h2
        dsimp only at ep0 hp0
        have E12 := E1.trans E2
        walk_at "rd"
        refine loopR (n := ls.length - 1) (fun i σ G' M' => ∃ z1 z2 v3', σ = [some (.int n), some (.ref a), some v3', z1, z2] ∧ Same G G' ∧ M' = M ∧ rL (rL rP) sts v3' G ∧
            ∀ (kk : Nat) (l l' : Lv), kk < i → ls[kk]? = some l → ls[kk + 1]? = some l' → ∀ p ∈ l, LeadOk n p l' sts)
          S2 (by
            intro R_ q_
            walk_at "rd"
            have e : ((xs.length : Nat) : Int) - 1 = ((ls.length - 1 : Nat) : Int) := by omega
            rw [e]
            exact q_) (by omega) ⟨_, _, _, rfl, E12, rfl, hsteps, fun kk l l' h => absurd h (Nat.not_lt_zero _)⟩ (fun i σ G' M' H' hi hI S' => ?_) (fun σ G' M' H' hI S' => ?_)
        · obtain ⟨z1, z2, v3', rfl, E3, rfl, hsteps3, hp⟩ := hI
          have e1 : xs[i]? = some (xs[i]'(by omega)) := List.getElem?_eq_getElem (by omega)
          have e2 : xs[i + 1]? = some (xs[i + 1]'(by omega)) := List.getElem?_eq_getElem (by omega)
          obtain ⟨l, el, b, ys, eb, hb, bl⟩ := al.at e1
          obtain ⟨l', el', hl'⟩ := al.at e2
          rw [eb] at e1
          have hb2 := E3 _ _ hb
          have ei2 : atI xs ((i : Int) + 1) = some (xs[i + 1]'(by omega)) := at_of (j := i + 1) (by omega) e2
          walk_at "rd"
          apply rd_fT
          walk_at "rd"
          refine loopT ys (fun j σ G6 M6 => ∃ z2 v3', σ = [some (.int n), some (.ref a), some v3', some (.int (i : Int)), z2] ∧ Same G' G6 ∧ M6 = M' ∧ rL (rL rP) sts v3' G ∧ ∀ p ∈ l.take j, LeadOk n p l' sts) S' gv_cE ⟨_, _, rfl, Same.refl _, rfl, hsteps3, by simp⟩ (fun j σ G6 M6 hI H6 S6 => ?_) (fun j x σ G6 M6 H6 hx2 hI S6 => ?_) (fun σ G6 M6 H6 hI S6 => ?_)
          · obtain ⟨_, _, rfl, E4, _⟩ := hI
            exact S6.g _ _ (E4 _ _ hb2)
          · obtain ⟨z2, v3', rfl, E4, rfl, hsteps4, hp2⟩ := hI
            obtain ⟨p, ep, hpp⟩ := bl.at hx2
            have ha2 := E4 _ _ (E3 _ _ ha)
            walk_at "rd"
            have hmem := List.mem_of_getElem? el
            have hmem' := List.mem_of_getElem? el'
            refine ⟨G6, _, (n, p, l', sts), S6, ⟨_, _, _, _, rfl, rfl, up_Pt _ _ _ _ (E3.trans E4) hpp, up_Lv _ _ _ _ (E3.trans E4) hl', up_L (up_L up_P) _ _ _ _ (E3.trans E4) hsteps4,
              (hst l hmem).2 p (List.mem_of_getElem? ep), hlv l hmem p (List.mem_of_getElem? ep), (hst l' hmem').2, hsts, hn⟩, fun v G3 H3 E5 S3 ⟨c3, ec3, hc3⟩ => ?_⟩
            subst ec3
            walk_at "rd"
            refine rd_iteN (fun h3 => ?_) (fun h3 => ?_)
            · walk_at "rd"
              exact hbad G3 H3 ((E3.trans E4).trans E5) S3
            · walk_at "rd"
              refine ⟨G3, _, S3, _, _, rfl, E4.trans E5, rfl, hsteps4, fun y hy => ?_⟩
              rw [take_push ep] at hy
              rcases List.mem_append.mp hy with hy | hy
              · exact hp2 y hy
              · rw [List.mem_singleton.mp hy]; exact hc3 h3
          · obtain ⟨z2, v3', rfl, E4, rfl, hsteps4, hp2⟩ := hI
            rw [bl.len, List.take_length] at hp2
            refine ⟨G6, _, S6, _, _, _, rfl, E3.trans E4, rfl, hsteps4, fun kk m m' hk hm hm' => ?_⟩
            rcases Nat.lt_succ_iff_lt_or_eq.mp hk with hk | rfl
            · exact hp kk m m' hk hm hm'
            · rw [el] at hm
              rw [el'] at hm'
              cases hm
              cases hm'
              exact hp2
        · obtain ⟨z1, z2, v3', rfl, E3, rfl, hsteps3, hp⟩ := hI
          have e1 : xs[xs.length - 1]? = some (xs[xs.length - 1]'(by omega)) := List.getElem?_eq_getElem (by omega)
          obtain ⟨l, el, hl⟩ := al.at e1
          have eat : atI xs (-1) = some (xs[xs.length - 1]'(by omega)) := by
            unfold atI ixN
            rw [if_neg (by decide), if_pos (by omega)]
            show xs[((-1 : Int) + (xs.length : Int)).toNat]? = _
            have e3 : ((-1 : Int) + (xs.length : Int)).toNat = xs.length - 1 := by omega
            rw [e3]
            exact e1
          walk_at "rd"
          refine ⟨_, rfl, ?_⟩
          refine rd_ixT (S'.g _ _ (E3 _ _ ha)) eat ?_
          walk_at "rd"
          have hmem := List.mem_of_getElem? el
          refine ⟨G', _, l, S', ⟨_, rfl, up_Lv _ _ _ _ E3 hl, hlv l hmem⟩, fun v G3 H3 E5 S3 ⟨c3, ec3, hc3⟩ => ?_⟩
          subst ec3
          walk_at "rd"
          refine k _ G3 H3 (E3.trans E5) S3 ⟨c3, rfl, fun h => .inr ⟨hst, ⟨p0, by rw [el0, ep0], hp0⟩, fun kk m m' hm hm' => hp kk m m' ?_ hm hm', l, by rw [← hxl]; exact el, hc3 h⟩⟩
          have h1 := (List.getElem?_eq_some_iff.mp hm').1
          omega
end
end N
/-! NW: comprehensions whose list is changed later -/
namespace N
open PySem L2
section
variable {K : PySem.W.Frag} {g : TG} {tt : TT} {te : TE} {tl : TE} {ta : TA} {vs : List Nat} {σ : L2.St} {H1 G0 M0 : Hp}
theorem leafLM {Q : VK} {a : Addr} {xs : List V} (I : Nat → Hp → Hp → List V → Prop) (S : Hs G0 M0 H1) (htl : Gv tl σ H1 (.ref a)) (h0 : I 0 G0 M0 [])
    (hsrc : ∀ i D G M H acc, Hs G M H → M D = some (.lst acc) → I i G (del M D) acc → H a = some (.lst xs)) (ha : H1 a = some (.lst xs))
    (step : ∀ i D x G M H acc, xs[i]? = some x → Hs G M H → M D = some (.lst acc) → I i G (del M D) acc → StepC g tt te vs σ D I i x H)
    (done : ∀ p G M acc H, I xs.length G (del M p) acc → Hs G M H → M p = some (.lst acc) → Q (.ref p) H) :
    tLc (iList K tl) g tt te vs σ H1 Q := by
  refine htl _ ⟨a, rfl, ⟨xs, SqL.of ha⟩, fun D hD => ?_⟩
  exact lc_list (K := K) (xs := xs) (Nc D I) (nc_start S hD h0) (fun i H _ ⟨G, M, acc, S, hm, h⟩ => SqL.of (hsrc i D G M H acc S hm h)) (fun i x H hx ⟨G, M, acc, S, hm, h⟩ => step i D x G M H acc hx S hm h) fun H ⟨G, M, acc, S, hm, h⟩ => done D G M acc H h S hm
theorem leafTM {Q : VK} {a : Addr} {xs : List V} (I : Nat → Hp → Hp → List V → Prop) (S : Hs G0 M0 H1) (htl : Gv tl σ H1 (.ref a)) (h0 : I 0 G0 M0 [])
    (hsrc : ∀ i D G M H acc, Hs G M H → M D = some (.lst acc) → I i G (del M D) acc → H a = some (.tup xs)) (ha : H1 a = some (.tup xs))
    (step : ∀ i D x G M H acc, xs[i]? = some x → Hs G M H → M D = some (.lst acc) → I i G (del M D) acc → StepC g tt te vs σ D I i x H)
    (done : ∀ p G M acc H, I xs.length G (del M p) acc → Hs G M H → M p = some (.lst acc) → Q (.ref p) H) :
    tLc (iTup K tl) g tt te vs σ H1 Q := by
  refine htl _ ⟨a, rfl, ⟨xs, SqT.of ha⟩, fun D hD => ?_⟩
  exact lc_tup (K := K) (xs := xs) (Nc D I) (nc_start S hD h0) (fun i H _ ⟨G, M, acc, S, hm, h⟩ => SqT.of (hsrc i D G M H acc S hm h)) (fun i x H hx ⟨G, M, acc, S, hm, h⟩ => step i D x G M H acc hx S hm h) fun H ⟨G, M, acc, S, hm, h⟩ => done D G M acc H h S hm
theorem leafRM {Q : VK} {n : Nat} (I : Nat → Hp → Hp → List V → Prop) (S : Hs G0 M0 H1) (hta : GvA ta σ H1 [.int (n : Int)]) (hn : n < 2 ^ 62) (h0 : I 0 G0 M0 [])
    (step : ∀ i D G M H acc, i < n → Hs G M H → M D = some (.lst acc) → I i G (del M D) acc → StepC g tt te vs σ D I i (.int ((i : Nat) : Int)) H)
    (done : ∀ p G M acc H, I n G (del M p) acc → Hs G M H → M p = some (.lst acc) → Q (.ref p) H) :
    tLc (iRng1 ta) g tt te vs σ H1 Q := by
  refine hta _ ⟨n, rfl, by omega, by omega, fun D hD => ?_⟩
  have e : ((n : Int)).toNat = n := by simp
  rw [e]
  refine lc_range (Nc D I) (nc_start S hD h0) (fun i H hi ⟨G, M, acc, S, hm, h⟩ => ?_) fun H ⟨G, M, acc, S, hm, h⟩ => done D G M acc H h S hm
  have e2 : (0 : Int) + (i : Nat) = ((i : Nat) : Int) := by omega
  rw [e2]
  exact step i D G M H acc hi S hm h
theorem done_mM {α : Type} {R : α → V → Hp → Prop} {l : List (Option α)} {Q : VK} {n : Nat} (hn : n = l.length)
    (k : ∀ p acc G M H, Same G0 G → (∀ b, b ≠ p → M b = M0 b) → M0 p = none → Hs G M H → M p = some (.lst acc) → All2 R G (l.filterMap id) acc → Q (.ref p) H) :
    ∀ p G M acc H, Im R l G0 M0 n G (del M p) acc → Hs G M H → M p = some (.lst acc) → Q (.ref p) H := by
  rintro p G M acc H ⟨E, eM, A⟩ S e
  rw [hn, List.take_length] at A
  exact k p acc G M H E (fun b hb => by rw [← eM b, del_ne hb]) (by rw [← eM p, del_same]) S e A
theorem compLM {α : Type} {R : α → V → Hp → Prop} (up : Up R) (l : List (Option α)) {Q : VK} {a : Addr} {xs : List V} {j : Nat} (S : Hs G0 M0 H1) (htl : Gv tl σ H1 (.ref a)) (ha : G0 a = some (.lst xs)) (hlen : xs.length = l.length) (hz : l.length < sizeLine)
    (hw : ∀ x, wipe ((wipe σ vs).set j (some x)) vs = wipe σ vs)
    (h1 : ∀ (i : Nat) (x : V) (o : Option α) (G M H : Hp), xs[i]? = some x → l[i]? = some o → Same G0 G → Hs G M H → ∀ Q' : Bool → Hp → Prop, (∀ G1 H', Same G G1 → Hs G1 M H' → Q' o.isSome H') → tt ((wipe σ vs).set j (some x)) H Q')
    (h2 : ∀ (i : Nat) (x : V) (y : α) (G M H : Hp), xs[i]? = some x → l[i]? = some (some y) → Same G0 G → Hs G M H → ∀ Q' : VK, (∀ v G2 H2, Same G G2 → Hs G2 M H2 → R y v G2 → Q' v H2) → te ((wipe σ vs).set j (some x)) H Q')
    (k : ∀ p acc G M H, Same G0 G → (∀ b, b ≠ p → M b = M0 b) → M0 p = none → Hs G M H → M p = some (.lst acc) → All2 R G (l.filterMap id) acc → Q (.ref p) H) :
    tLc (iList K tl) (gName j) tt te vs σ H1 Q :=
  leafLM (Im R l G0 M0) S htl im_start (fun i D G M H acc S _ h => S.g _ _ (h.1 _ _ ha)) (S.g _ _ ha)
    (fun i D x G M H acc hx S hm h => by
      have hi : i < l.length := by rw [← hlen]; exact (List.getElem?_eq_some_iff.mp hx).1
      have ho : l[i]? = some l[i] := List.getElem?_eq_getElem hi
      exact step_m up hz ho S hm h (hw x) (h1 i x _ G M H hx ho h.1 S) fun y ey G1 H' E1 S1 => h2 i x y G1 M H' hx (by rw [ho, ey]) (h.1.trans E1) S1)
    (done_mM hlen k)
theorem compRM {α : Type} {R : α → V → Hp → Prop} (up : Up R) (l : List (Option α)) {Q : VK} {n j : Nat} (S : Hs G0 M0 H1) (hta : GvA ta σ H1 [.int (n : Int)]) (hn : n < 2 ^ 62) (hlen : n = l.length) (hz : l.length < sizeLine)
    (hw : ∀ x, wipe ((wipe σ vs).set j (some x)) vs = wipe σ vs)
    (h1 : ∀ (i : Nat) (o : Option α) (G M H : Hp), i < n → l[i]? = some o → Same G0 G → Hs G M H → ∀ Q' : Bool → Hp → Prop, (∀ G1 H', Same G G1 → Hs G1 M H' → Q' o.isSome H') → tt ((wipe σ vs).set j (some (.int ((i : Nat) : Int)))) H Q')
    (h2 : ∀ (i : Nat) (y : α) (G M H : Hp), i < n → l[i]? = some (some y) → Same G0 G → Hs G M H → ∀ Q' : VK, (∀ v G2 H2, Same G G2 → Hs G2 M H2 → R y v G2 → Q' v H2) → te ((wipe σ vs).set j (some (.int ((i : Nat) : Int)))) H Q')
    (k : ∀ p acc G M H, Same G0 G → (∀ b, b ≠ p → M b = M0 b) → M0 p = none → Hs G M H → M p = some (.lst acc) → All2 R G (l.filterMap id) acc → Q (.ref p) H) :
    tLc (iRng1 ta) (gName j) tt te vs σ H1 Q :=
  leafRM (Im R l G0 M0) S hta hn im_start
    (fun i D G M H acc hx S hm h => by
      have hi : i < l.length := by rw [← hlen]; exact hx
      have ho : l[i]? = some l[i] := List.getElem?_eq_getElem hi
      exact step_m up hz ho S hm h (hw _) (h1 i _ G M H hx ho h.1 S) fun y ey G1 H' E1 S1 => h2 i y G1 M H' hx (by rw [ho, ey]) (h.1.trans E1) S1)
    (done_mM hlen k)
/-- nothing but new things were changed -/
def Kept (M M' : Hp) : Prop := ∀ b o, M b = some o → M' b = some o
theorem Kept.refl (M : Hp) : Kept M M := fun _ _ h => h
theorem Kept.trans {A B C : Hp} (h : Kept A B) (k : Kept B C) : Kept A C := fun b o e => k b o (h b o e)
theorem Kept.chg {M M1 M2 : Hp} {p : Addr} (h : Kept M M1) (e : ∀ b, b ≠ p → M2 b = M1 b) (n : M p = none) : Kept M M2 := fun b o hb => by
  have hn : b ≠ p := fun z => by subst z; rw [n] at hb; cases hb
  rw [e b hn]
  exact h b o hb
end
end N
/-! NQ: sum of a tuple of ints -/
namespace N
open PySem L2 PySem.W PyProof.Rows
section
variable {X : Cx}
def rSumT (K : PySem.W.Frag) : List V → Hp → VK → Prop := fun vs H Q => ∃ (a : Addr) (ns : List Int), vs = [V.ref a] ∧ SqT K H a (ns.map V.int) ∧ Q (.int ns.sum) H
theorem cr_sumT (hc : X.calm = true) : CallR X (.builtin "sum") (rSumT X.K) := by
  intro pins s σ H vs us Q I r h
  obtain ⟨a, ns, rfl, hs, q⟩ := h
  obtain ⟨its, rv, pt, hz⟩ := I.tuple hs
  rw [Vals.ref1 r]
  have hi := rv.ints
  obtain ⟨o, ho, hcc, n, hd⟩ := pt
  have ht : s.heap.IsTuple a its.toArray := ⟨o, ho, hcc, n, hd⟩
  obtain ⟨xs, hx⟩ := hi.allInts.items
  have hn : numsOf its.toArray.toList = ns := by rw [show its.toArray.toList = its from rfl, hi.numsOf]
  rw [hx] at ht hn
  rw [nums_intItems] at hn
  refine ktm_sumG (I.ok.hd hc) ht fun h' tk t' hk => ?_
  rw [preSum_eq, List.take_of_length_le (by simp), hn]
  exact ⟨.int _, H, I.kept hk, ⟨_, rfl⟩, q⟩
variable {K : PySem.W.Frag}
theorem sumTK (K : PySem.W.Frag) (hc : X.calm = true) (h : X.K = K := by rfl) : CallR X (.builtin "sum") (rSumT K) := h ▸ cr_sumT hc
theorem rd_sumT {K : PySem.W.Frag} {H : Hp} {Q : VK} {p : Addr} {ns : List Int} (h : H p = some (.tup (ns.map V.int))) (q : Q (.int ns.sum) H) : rSumT K [.ref p] H Q := ⟨p, ns, rfl, SqT.of h, q⟩
end
end N
/-! NI: networks, their depth, the judge -/
namespace N
open PySem L2
section
variable {K : PySem.W.Frag} {σ : L2.St} {H : Hp} {D : Ends} {te tv : TE} {Q : VK} {f : Str}
theorem rd_sFld (h : tv σ H fun y H1 => te σ H1 fun x H2 => ∃ a C dx fs, x = .ref a ∧ H2 a = some (.ins C dx fs) ∧ Cls K C ∧ NoAttr K C f ∧ fs.length < 1000 ∧ D.nx σ (upd H2 a (.ins C dx (putF f y fs)))) : sFld K te tv f D σ H := h
theorem rd_tFld (h : te σ H fun x H1 => ∃ a C dx fs v, x = .ref a ∧ H1 a = some (.ins C dx fs) ∧ Cls K C ∧ NoAttr K C f ∧ fs.lookup f = some v ∧ Q v H1) : tFld K te f σ H Q := h
end
local macro_rules | `(tactic| walk_at "r1") => `(tactic| first | with_reducible apply rd_sFld | with_reducible apply rd_tFld)
def netF (n : Int) (t : Addr) : List (Str × V) := putF "comparers" (.ref t) (putF "wires" (.int n) [])
theorem net_w (n : Int) (t : Addr) : (netF n t).lookup ("wires" : Str) = some (.int n) := by
  unfold netF
  rw [lookup_putF, if_neg (by decide +kernel), lookup_putF, if_pos rfl]
theorem net_c (n : Int) (t : Addr) : (netF n t).lookup ("comparers" : Str) = some (.ref t) := by
  unfold netF
  rw [lookup_putF, if_pos rfl]
theorem net_len (n : Int) : (putF "wires" (.int n) []).length < 1000 := by
  show 1 < 1000
  decide
def CpOk (n : Int) (c : Cp) : Prop := 0 ≤ c.1 ∧ c.1 < n ∧ 0 ≤ c.2 ∧ c.2 < n ∧ c.1 ≠ c.2
def sp_init (C : Addr) : Sp := fun vs H Q _ => ∃ (G M : Hp) (x dx : Addr) (v : V) (n : Int) (cs : List Cp), Hs G M H ∧ vs = [.ref x, .int n, v] ∧ M x = some (.ins C dx []) ∧ rL rP cs v G ∧ 1 ≤ n ∧ (∀ c ∈ cs, CpOk n c) ∧ cs.length ≤ 4000 ∧
  ∀ G' M' H' t, Same G G' → (∀ b, b ≠ x → M' b = M b) → Hs G' M' H' → M' x = some (.ins C dx (netF n t)) → rT rP cs (.ref t) G' → Q .non H'
section
variable {P : Program} {w : World} {K : PySem.W.Frag} {mg : Str → Option Value} {base : Heap}
theorem ok_init {f C : Addr} {fd : FuncData} (F : FunD K "__init__" "Network.__init__" (defArgs s_init) (defBody s_init) (defScope s_init) [] [] f fd) (T : Bt mg) (cl : Cls K C) (nW : NoAttr K C "wires") (nC : NoAttr K C "comparers") :
    FnOk P w K mg base CX0 1 f fd ["self", "wires", "comparers"] (sp_init C) := by
  refine F.ok sc_init (fun vs H Q E h => by obtain ⟨_, _, _, _, _, _, _, _, rfl, _⟩ := h; rfl) (fun cdv A outer s H vs Q E hr h => ?_)
  obtain ⟨G, M, x, dx, v, n, cs, S, rfl, hx, ⟨a, xs, rfl, ha, al⟩, hn, hcs, hsz, k⟩ := h
  refine ⟨_, PSs.nox (pss_cons (ps_fld (pv 0) (pv 1) rfl)
    (pss_cons (ps_fld (pv 0) (pe_callTy (tupO K) (by rfl) T.tuple (by decide +kernel) (pa_cons (pe_lc (own := [("pair", 3)]) rfl sc_init.nd (piL K (pv 2)) (blkOk_by (N := ["self", "wires", "comparers", "pair", "one", "two"]) (sc := defScope s_init) (by decide +kernel)) (fun _ _ _ _ _ => (pg_name (i := 3) sc_init.nd rfl (Or.inl rfl))) (fun _ _ _ _ _ => pts_nil) (fun _ _ _ _ _ => (pe_callTy (tupO K) (by rfl) T.tuple (by decide +kernel) (pa_cons (pv 3) pa_nil)))) pa_nil)) rfl)
    (pss_cons (ps_if (pt_cmpR op_lt (pv 1) pe_int (nomark _))
     (pss_one ps_never)
     pss_nil)
    (pss_one (ps_for PassesOwn.never rfl (piT K (pe_fld (pv 0) rfl)) (pgT K 2 rfl (pgs_cons (pg_name (i := 4) sc_init.nd rfl (Or.inl rfl)) (pgs_cons (pg_name (i := 5) sc_init.nd rfl (Or.inl rfl)) pgs_nil)))
     (pss_one (ps_if (PW.pt (pw_or (pt_not (pt_chain op_le op_lt pe_int (pv 4) (pv 1))) (pw_or (pt_not (pt_chain op_le op_lt pe_int (pv 5) (pv 1))) (pw_or1 (pt_cmpR op_eq (pv 4) (pv 5) (nomark _))))))
      (pss_one ps_never)
      pss_nil))))))), ?_⟩
  walk_at "rd"
  refine ⟨x, C, dx, [], rfl, S.m _ _ hx, cl, nW, by decide, ?_⟩
  obtain ⟨M1, e1, S1, f1⟩ := S.chg hx (.ins C dx (putF "wires" (.int n) []))
  walk_at "rd"
  refine compL up_P (cs.map some) S1 (by walk_at "gv") ha (by simp [al.len]) (by simp [sizeLine_eq]; omega) (by intro _; rfl) yes_all (fun i x1 y G1 M2 H1 hx1 ho E1 S2 Q' kk => ?_) (fun p acc G1 H1 E1 S2 e al2 => ?_)
  · obtain ⟨c, ec, b, x2, y2, rfl, hb, h1, h2⟩ := al.at hx1
    have ey := some_at ho
    rw [ec] at ey
    cases ey
    have hb2 := E1 _ _ hb
    walk_at "rd"
    exact kk _ G1 H1 (Same.refl _) S2 ⟨b, x2, y2, rfl, hb2, h1, h2⟩
  · rw [filt_some] at al2
    walk_at "rd"
    refine al_tpL S2 (S2.g _ _ e) (fun t G2 H2 E2 S3 f2 => ?_)
    walk_at "rd"
    refine ⟨x, C, dx, _, rfl, S3.m _ _ f1, cl, nC, net_len n, ?_⟩
    obtain ⟨M2, e2, S4, f3⟩ := S3.chg f1 (.ins C dx (netF n t))
    walk_at "rd"
    refine rd_ite (fun h0 => absurd h0 (by omega)) (fun h0 => ?_)
    walk_at "rd"
    apply rd_fT
    walk_at "rd"
    refine ⟨x, C, dx, _, _, rfl, S4.m _ _ f3, cl, nC, net_c n t, ?_⟩
    refine loopT acc (fun i σ G' M' => ∃ z0 z1 z2, σ = [some (.ref x), some (.int n), some (.ref a), z0, z1, z2] ∧ G' = G2 ∧ M' = M2) S4 gv_cE ⟨_, _, _, rfl, rfl, rfl⟩ (fun i σ G' M' hI H' S' => ?_) (fun i x3 σ G' M' H' hx3 hI S' => ?_) (fun σ G' M' H' hI S' => ?_)
    · obtain ⟨_, _, _, rfl, rfl, _⟩ := hI
      exact S'.g _ _ f2
    · obtain ⟨z0, z1, z2, rfl, rfl, rfl⟩ := hI
      obtain ⟨c, ec, b, x2, y2, rfl, hb, h1, h2⟩ := al2.at hx3
      cases h1
      cases h2
      obtain ⟨q1, q2, q3, q4, q5⟩ := hcs c (List.mem_of_getElem? ec)
      have hb2 := E2 _ _ hb
      walk_at "rd"
      rw [decide_eq_true q1]
      refine iteT ?_
      walk_at "rd"
      rw [decide_eq_true q2]
      refine iteF ?_
      walk_at "rd"
      rw [decide_eq_true q3]
      refine iteT ?_
      walk_at "rd"
      rw [decide_eq_true q4]
      refine iteF ?_
      walk_at "rd"
      rw [decide_eq_false q5]
      refine iteF ?_
      walk_at "rd"
      exact ⟨_, _, S', _, _, _, rfl, rfl, rfl⟩
    · obtain ⟨z0, z1, z2, rfl, rfl, rfl⟩ := hI
      exact k _ _ H' t (E1.trans E2) (fun b hb => (e2 b hb).trans (e1 b hb)) S' f3 ⟨t, acc, rfl, f2, al2.up up_P E2⟩
end
section
variable {P : Program} {w : World} {K : PySem.W.Frag} {mg : Str → Option Value} {base : Heap}
def sp_layers : Sp := fun vs H Q _ => ∃ (G M : Hp) (x C dx t : Addr) (n : Nat) (cs : List Cp), Hs G M H ∧ vs = [.ref x] ∧ M x = some (.ins C dx (netF n t)) ∧ Cls K C ∧ NoAttr K C "wires" ∧ NoAttr K C "comparers" ∧ rT rP cs (.ref t) G ∧ n ≤ 8 ∧ (∀ c ∈ cs, CpOk n c) ∧ cs.length ≤ 4000 ∧
  ∀ G' H' p ls, Same G G' → Hs G' M H' → G' p = some (.lst ls) → ls.length = depthM n cs → Q (.ref p) H'
theorem lay_set {l : List Int} {n : Nat} {c : Int} (h : 0 ≤ c) (h2 : c < n) (e : l.length = n) : ixN (l.map V.int).length c = some c.toNat := ixN_of (by omega) (by rw [List.length_map]; omega)
theorem lay_at {l : List Int} {n : Nat} {c : Int} (h : 0 ≤ c) (h2 : c < n) (e : l.length = n) : atI (l.map V.int) c = some (.int (l.getD c.toNat 0)) := by
  refine at_of (j := c.toNat) (by omega) ?_
  have hl : c.toNat < l.length := by omega
  rw [List.getElem?_map, List.getElem?_eq_getElem hl, List.getD_eq_getElem?_getD, List.getElem?_eq_getElem hl]
  rfl
theorem ok_layers (T : Bt mg) (F : Dfn K mg "layers" s_layers) : Has P w K mg base 1 "layers" ["network"] (sp_layers (K := K)) := by
  refine F.ok sc_layers (fun _ _ _ _ _ _ us hl => match us, hl with | [_], _ => rfl) (fun vs H Q E h => by obtain ⟨_, _, _, _, _, _, _, _, _, rfl, _⟩ := h; rfl) (fun f cdv A outer s H vs Q E hr h => ?_)
  obtain ⟨G, M, x, C, dx, t, n, cs, S, rfl, hx, cl, nW, nC, ⟨_, xs, et, ha, al⟩, hn, hcs, hsz, k⟩ := h
  cases et
  refine ⟨_, (pss_cons (ps_set (i := 1) sc_layers.nd rfl (Or.inl rfl) (pe_lst pa_nil))
    (pss_cons (ps_setLc (i := 2) (own := [("_", 3)]) rfl sc_layers.nd rfl rfl (sw_true rfl rfl rfl (by decide +kernel)) (pi_range1 (by rfl) T.range (pa_cons (pe_fld (pv 0) rfl) pa_nil)) (blkOk_by (N := ["network", "found", "reached", "_", "one", "two", "level"]) (sc := defScope s_layers) (by decide +kernel)) (fun _ _ _ _ _ => (pg_name (i := 3) sc_layers.nd rfl (Or.inl rfl))) (fun _ _ _ _ _ => pts_nil) (fun _ _ _ _ _ => pe_int))
    (pss_cons (ps_for PassesOwn.never rfl (piT K (pe_fld (pv 0) rfl)) (pgT K 2 rfl (pgs_cons (pg_name (i := 4) sc_layers.nd rfl (Or.inl rfl)) (pgs_cons (pg_name (i := 5) sc_layers.nd rfl (Or.inl rfl)) pgs_nil)))
     (pss_cons (ps_set (i := 6) sc_layers.nd rfl (Or.inl rfl) (pe_callB (call_max2 rfl) (by rfl) T.max (by decide +kernel) (pa_cons (pe_ix (ixL K) (pv 2) (pv 4) (fun _ _ => rfl)) (pa_cons (pe_ix (ixL K) (pv 2) (pv 5) (fun _ _ => rfl)) pa_nil))))
     (pss_cons (ps_if (pt_cmpR op_eq (pv 6) (pe_callB (lenS K) (by rfl) T.len PySem.boot_len (pa_cons (pv 1) pa_nil)) (nomark _))
      (pss_one (ps_expr (pe_bm PySem.F.plainAttrs_list PySem.F.slot_list_append PySem.F.type_list_append mt_append (pv 1) (pa_cons (pe_lst pa_nil) pa_nil))))
      pss_nil)
     (pss_cons (ps_expr (pe_bm PySem.F.plainAttrs_list PySem.F.slot_list_append PySem.F.type_list_append mt_append (pe_ix (ixL K) (pv 1) (pv 6) (fun _ _ => rfl)) (pa_cons (pe_tup (pa_cons (pv 4) (pa_cons (pv 5) pa_nil))) pa_nil)))
     (pss_cons (ps_asg (pe_op op_add (pv 6) pe_int) (pg_sub (pv 2) (pv 4) set_list))
     (pss_one (ps_asg (pe_op op_add (pv 6) pe_int) (pg_sub (pv 2) (pv 5) set_list))))))))
    (pss_one (ps_ret (pv 1)))))), ?_⟩
  walk_at "rd"
  refine al_lstM S (by walk_at "gv") (by decide) (fun pf M1 H1 e1 S1 f1 n1 _ => ?_)
  have hxf : x ≠ pf := fun z => by subst z; rw [n1] at hx; cases hx
  have hx1 : M1 x = some (.ins C dx (netF n t)) := by rw [e1 _ hxf]; exact hx
  walk_at "rd"
  refine compRM up_Z ((List.replicate n (0 : Int)).map some) (n := n) S1 ?_ (by omega) (by simp) (by simp [sizeLine_eq]; omega) (by intro _; rfl) yes_allR (fun i y G1 M2 H2 hi ho E1 S2 Q' kk => ?_) (fun pr acc G2 M2 H2 E2 e2 n2 S2 f2 al2 => ?_)
  · intro R q
    walk_at "rd"
    exact ⟨x, C, dx, _, _, rfl, S1.m _ _ hx1, cl, nW, net_w n t, q⟩
  · have ey := some_at ho
    rw [List.getElem?_replicate, if_pos hi] at ey
    cases ey
    walk_at "rd"
    exact kk _ G1 H2 (Same.refl _) S2 rfl
  · rw [filt_some] at al2
    have ea := al2.ints
    subst ea
    have hfr : pf ≠ pr := fun z => by subst z; rw [n2] at f1; cases f1
    have f3 : M2 pf = some (.lst []) := by rw [e2 _ hfr]; exact f1
    have hxr : x ≠ pr := fun z => by subst z; rw [n2] at hx1; cases hx1
    have hx2 : M2 x = some (.ins C dx (netF n t)) := by rw [e2 _ hxr]; exact hx1
    have kp : Kept M M2 := fun b o hb => by
      have h1 : b ≠ pf := fun z => by subst z; rw [n1] at hb; cases hb
      have h2 : b ≠ pr := fun z => by subst z; rw [e1 _ h1, hb] at n2; cases n2
      rw [e2 _ h2, e1 _ h1]
      exact hb
    have nr : M pr = none := by rw [← e1 _ hfr.symm]; exact n2
    walk_at "rd"
    apply rd_fT
    walk_at "rd"
    refine ⟨x, C, dx, _, _, rfl, S2.m _ _ hx2, cl, nC, net_c n t, ?_⟩
    refine loopT xs (fun i σ G' M' => ∃ z3 z4 z5 z6 fl, σ = [some (.ref x), some (.ref pf), some (.ref pr), z3, z4, z5, z6] ∧ Same G G' ∧ Kept M M' ∧ M' pr = some (.lst ((dpM n (cs.take i)).1.map V.int)) ∧ M' pf = some (.lst fl) ∧ fl.length = (dpM n (cs.take i)).2 ∧ (dpM n (cs.take i)).2 ≤ i ∧
      ∀ v ∈ fl, ∃ q ys, v = .ref q ∧ q ≠ pf ∧ q ≠ pr ∧ M q = none ∧ M' q = some (.lst ys) ∧ ys.length ≤ i)
      S2 gv_cE ⟨_, _, _, _, [], rfl, E2, kp, f2, f3, rfl, Nat.le_refl _, fun v hv => by cases hv⟩ (fun i σ G' M' hI H' S' => ?_) (fun i x3 σ G' M' H' hx3 hI S' => ?_) (fun σ G' M' H' hI S' => ?_)
    · obtain ⟨_, _, _, _, _, rfl, E', _⟩ := hI
      exact S'.g _ _ (E' _ _ ha)
    · obtain ⟨z3, z4, z5, z6, fl, rfl, E', kp', fr, ff, hfl, hdi, hin⟩ := hI
      obtain ⟨c, ec, b, x2, y2, rfl, hb, h1, h2⟩ := al.at hx3
      cases h1
      cases h2
      obtain ⟨q1, q2, q3, q4, q5⟩ := hcs c (List.mem_of_getElem? ec)
      have hb2 := E' _ _ hb
      obtain ⟨dl, db⟩ := dpM_ok n (cs.take i)
      have tk : cs.take (i + 1) = cs.take i ++ [c] := take_push ec
      have dn : dpM n (cs.take (i + 1)) = dpStep (dpM n (cs.take i)) c := by rw [tk]; unfold dpM; rw [List.foldl_append]; rfl
      have a1 := lay_at q1 q2 dl
      have a2 := lay_at q3 q4 dl
      have hg : ∀ j : Nat, j < n → 0 ≤ (dpM n (cs.take i)).1.getD j 0 ∧ (dpM n (cs.take i)).1.getD j 0 ≤ (dpM n (cs.take i)).2 := fun j hj => by
        have hj2 : j < (dpM n (cs.take i)).1.length := by omega
        rw [List.getD_eq_getElem?_getD, List.getElem?_eq_getElem hj2]
        exact db _ (List.getElem_mem hj2)
      have g1 := hg c.1.toNat (by omega)
      have g2 := hg c.2.toNat (by omega)
      have hi : i < cs.length := (List.getElem?_eq_some_iff.mp ec).1
      walk_at "rd"
      refine ⟨_, _, rfl, ?_⟩
      generalize hd : dpM n (cs.take i) = st at *
      obtain ⟨rc, dp⟩ := st
      dsimp only at *
      generalize hx4 : rc.getD c.1.toNat 0 = u1 at *
      generalize hy4 : rc.getD c.2.toNat 0 = u2 at *
      have edn : dpStep (rc, dp) c = ((rc.set c.1.toNat ((if u2 > u1 then u2 else u1) + 1)).set c.2.toNat ((if u2 > u1 then u2 else u1) + 1), if (if u2 > u1 then u2 else u1) = (dp : Int) then dp + 1 else dp) := by
        unfold dpStep
        dsimp only
        rw [hx4, hy4]
      have gl : 0 ≤ (if u2 > u1 then u2 else u1) ∧ (if u2 > u1 then u2 else u1) ≤ dp := by split <;> omega
      generalize hlv : (if u2 > u1 then u2 else u1) = lv at *
      walk_at "rd"
      have hdp : fl.length < 100000 := by omega
      refine rd_ite (fun h0 => ?_) (fun h0 => ?_)
      walk_at "rd"
      refine ⟨ty_lst (S'.m _ _ ff), ?_⟩
      walk_at "rd"
      refine al_lstM S' (by walk_at "gv") (by decide) (fun q M4 H4 e4 S4 f4 n4 _ => ?_)
      have hqf : pf ≠ q := fun z => by subst z; rw [n4] at ff; cases ff
      have hqr : pr ≠ q := fun z => by subst z; rw [n4] at fr; cases fr
      have ff4 : M4 pf = some (.lst fl) := by rw [e4 _ hqf]; exact ff
      have fr4 : M4 pr = some (.lst (rc.map V.int)) := by rw [e4 _ hqr]; exact fr
      have nq : M q = none := none_of fun u hu => by rw [kp' _ _ hu] at n4; cases n4
      walk_at "rd"
      refine rd_appM S4 ff4 (by rw [sizeLine_eq]; omega) (fun M3 H3 e3 S3 ff3 => ?_)
      obtain ⟨fl3, efl⟩ : ∃ z, z = fl ++ [V.ref q] := ⟨_, rfl⟩
      rw [← efl] at ff3
      have hl3 : fl3.length = (if lv = (dp : Int) then dp + 1 else dp) := by
        have : lv = (dp : Int) := by omega
        rw [if_pos this, efl, List.length_append, hfl]
        rfl
      have fr3 : M3 pr = some (.lst (rc.map V.int)) := by rw [e3 _ (Ne.symm hfr)]; exact fr4
      have kp3 : Kept M M3 := (kp'.chg e4 nq).chg e3 n1
      have hin3 : ∀ v ∈ fl3, ∃ q ys, v = .ref q ∧ q ≠ pf ∧ q ≠ pr ∧ M q = none ∧ M3 q = some (.lst ys) ∧ ys.length ≤ i := by
        intro v hv
        rw [efl] at hv
        rcases List.mem_append.mp hv with hv | hv
        · obtain ⟨q', ys, rfl, w1, w2, w3, w4, w5⟩ := hin v hv
          have hqq : q' ≠ q := fun z => by subst z; rw [n4] at w4; cases w4
          exact ⟨q', ys, rfl, w1, w2, w3, by rw [e3 _ w1, e4 _ hqq]; exact w4, w5⟩
        · have := List.mem_singleton.mp hv
          subst this
          exact ⟨q, [], rfl, hqf.symm, hqr.symm, nq, by rw [e3 _ hqf.symm]; exact f4, Nat.zero_le _⟩
      rotate_left
      obtain ⟨M3, em⟩ : ∃ z, z = M' := ⟨_, rfl⟩
      obtain ⟨fl3, efl⟩ : ∃ z, z = fl := ⟨_, rfl⟩
      have S3 : Hs G' M3 H' := em ▸ S'
      have ff3 : M3 pf = some (.lst fl3) := by rw [em, efl]; exact ff
      have hl3 : fl3.length = (if lv = (dp : Int) then dp + 1 else dp) := by
        have : ¬ lv = (dp : Int) := by omega
        rw [if_neg this, efl, hfl]
      have fr3 : M3 pr = some (.lst (rc.map V.int)) := by rw [em]; exact fr
      have kp3 : Kept M M3 := em ▸ kp'
      have hin3 : ∀ v ∈ fl3, ∃ q ys, v = .ref q ∧ q ≠ pf ∧ q ≠ pr ∧ M q = none ∧ M3 q = some (.lst ys) ∧ ys.length ≤ i := by
        rw [em, efl]
        exact hin
      all_goals
        have hlt : lv.toNat < fl3.length := by rw [hl3]; split <;> omega
        have h5 : fl3[lv.toNat]? = some fl3[lv.toNat] := List.getElem?_eq_getElem hlt
        obtain ⟨q, ys, eq, w1, w2, w3, w4, w5⟩ := hin3 _ (List.getElem_mem hlt)
        rw [eq] at h5
        have hat : atI fl3 lv = some (.ref q) := at_of (j := lv.toNat) (by omega) h5
        walk_at "rd"
        refine ⟨ty_lst (S3.m _ _ w4), ?_⟩
        walk_at "rd"
        refine al_tup (xs := [V.int c.1, V.int c.2]) S3 (by walk_at "gv") (by rw [sizeLine_eq]; simp) (fun pt G5 H5 E5 S5 f5 => ?_)
        walk_at "rd"
        refine rd_appM S5 w4 (by rw [sizeLine_eq]; omega) (fun M6 H6 e6 S6 f6 => ?_)
        have fr6 : M6 pr = some (.lst (rc.map V.int)) := by rw [e6 _ (Ne.symm w2)]; exact fr3
        have ff6 : M6 pf = some (.lst fl3) := by rw [e6 _ (Ne.symm w1)]; exact ff3
        walk_at "rd"
        refine rd_setM S6 fr6 (lay_set q1 q2 dl) (fun M7 H7 e7 S7 f7 => ?_)
        rw [← List.map_set] at f7
        walk_at "rd"
        refine rd_setM S7 f7 (lay_set q3 q4 (by rw [List.length_set]; exact dl)) (fun M8 H8 e8 S8 f8 => ?_)
        rw [← List.map_set] at f8
        walk_at "rd"
        refine ⟨_, _, S8, _, _, _, _, fl3, rfl, E'.trans E5, ((kp3.chg e6 w3).chg e7 nr).chg e8 nr, ?_, ?_, ?_, ?_, ?_⟩
        · rw [dn, edn]; exact f8
        · rw [e8 _ hfr, e7 _ hfr]; exact ff6
        · rw [dn, edn]; exact hl3
        · rw [dn, edn]
          dsimp only
          split <;> omega
        · intro v hv
          obtain ⟨q', ys', rfl, u1', u2', u3', u4', u5'⟩ := hin3 v hv
          by_cases hqq : q' = q
          · subst hqq
            rw [w4] at u4'
            cases u4'
            exact ⟨q', _, rfl, u1', u2', u3', by rw [e8 _ u2', e7 _ u2']; exact f6, by rw [List.length_append]; exact Nat.succ_le_succ w5⟩
          · exact ⟨q', ys', rfl, u1', u2', u3', by rw [e8 _ u2', e7 _ u2', e6 _ hqq]; exact u4', by omega⟩
    · obtain ⟨z3, z4, z5, z6, fl, rfl, E', kp', fr, ff, hfl, hdi, hin⟩ := hI
      walk_at "rd"
      obtain ⟨G3, E3, S3, hf⟩ := S'.dropAll kp'
      refine k G3 H' pf fl (E'.trans E3) S3 (hf _ _ n1 (S'.m _ _ ff)) ?_
      rw [hfl, al.len, List.take_length]
      rfl

def sp_depth : Sp := fun vs H Q _ => ∃ (G M : Hp) (x C dx t : Addr) (n : Nat) (cs : List Cp), Hs G M H ∧ vs = [.ref x] ∧ M x = some (.ins C dx (netF n t)) ∧ Cls K C ∧ NoAttr K C "wires" ∧ NoAttr K C "comparers" ∧ rT rP cs (.ref t) G ∧ n ≤ 8 ∧ (∀ c ∈ cs, CpOk n c) ∧ cs.length ≤ 4000 ∧
  ∀ G' H', Same G G' → Hs G' M H' → Q (.int (depthM n cs : Nat)) H'
theorem ok_depth (T : Bt mg) (F : Dfn K mg "depth" s_depth) (h_layers : Has P w K mg base 1 "layers" ["network"] (sp_layers (K := K))) : Has P w K mg base 2 "depth" ["network"] (sp_depth (K := K)) := by
  refine F.ok sc_depth (fun _ _ _ _ _ _ us hl => match us, hl with | [_], _ => rfl) (fun vs H Q E h => by obtain ⟨_, _, _, _, _, _, _, _, _, rfl, _⟩ := h; rfl) (fun f cdv A outer s H vs Q E hr h => ?_)
  obtain ⟨G, M, x, C, dx, t, n, cs, S, rfl, hx, cl, nW, nC, ha, hn, hcs, hsz, k⟩ := h
  refine ⟨_, (pss_one (ps_ret (pe_callB (lenS K) (by rfl) T.len PySem.boot_len (pa_cons (pe_fn h_layers hr (pa_cons (pv 0) pa_nil)) pa_nil)))), ?_⟩
  walk_at "rd"
  refine ⟨G, M, x, C, dx, t, n, cs, S, rfl, hx, cl, nW, nC, ha, hn, hcs, hsz, fun G1 H1 p ls E1 S1 f1 el => ?_⟩
  walk_at "rd"
  rw [el]
  exact k G1 H1 E1 S1
def sp_is_standard_sorter : Sp := pureSp (fun (x : Nat × List Cp) vs G => ∃ v1 v2, vs = [v1, v2] ∧ v1 = .int (x.1 : Int) ∧ rT rP x.2 v2 G ∧ x.1 ≤ 8) (fun x v _ => ∃ b, v = .bl b ∧ (b = true → SorterOk x.1 x.2))
theorem ok_is_standard_sorter (T : Bt mg) (F : Dfn K mg "is_standard_sorter" s_is_standard_sorter) (h_plain_rows : Has P w K mg base 1 "plain_rows" ["wires"] sp_plain_rows) (h_is_sorted : Has P w K mg base 1 "is_sorted" ["row"] sp_is_sorted)
    (h_passed : Has P w K mg base 1 "passed" ["row", "comparers"] sp_passed) : Has P w K mg base 2 "is_standard_sorter" ["wires", "comparers"] sp_is_standard_sorter := by
  refine F.ok sc_is_standard_sorter (fun _ _ _ _ _ _ us hl => match us, hl with | [_, _], _ => rfl) (fun vs H Q E h => by obtain ⟨_, _, _, _, ⟨_, _, rfl, _⟩, _⟩ := h; rfl) (fun f cdv A outer s H vs Q E hr h => ?_)
  obtain ⟨G, M, ⟨n, cs⟩, S, ⟨v1, v2, rfl, rfl, ⟨a, xs, rfl, ha, al⟩, hn⟩, k⟩ := h
  dsimp only at k al hn
  refine ⟨_, (pss_cons (ps_for PassesOwn.never rfl (piT K (pv 1)) (pgT K 2 rfl (pgs_cons (pg_name (i := 2) sc_is_standard_sorter.nd rfl (Or.inl rfl)) (pgs_cons (pg_name (i := 3) sc_is_standard_sorter.nd rfl (Or.inl rfl)) pgs_nil)))
     (pss_one (ps_if (pt_not (pt_chain3 op_le op_lt op_lt pe_int (pv 2) (pv 3) (pv 0)))
      (pss_one (ps_ret pe_bl))
      pss_nil)))
    (pss_cons (ps_for PassesOwn.never rfl (piL K (pe_fn h_plain_rows hr (pa_cons (pv 0) pa_nil))) (pg_name (i := 4) sc_is_standard_sorter.nd rfl (Or.inl rfl))
     (pss_one (ps_if (pt_not (pt_val (pe_fn h_is_sorted hr (pa_cons (pe_fn h_passed hr (pa_cons (pv 4) (pa_cons (pv 1) pa_nil))) pa_nil))))
      (pss_one (ps_ret pe_bl))
      pss_nil)))
    (pss_one (ps_ret pe_bl)))), ?_⟩
  have hbad : ∀ Gx Hx, Same G Gx → Hs Gx M Hx → Q (.bl false) Hx := fun Gx Hx Ex Sx => k _ Gx Hx Ex Sx ⟨false, rfl, nofun⟩
  walk_at "rd"
  refine loopT xs (fun i σ G' M' => ∃ z1 z2 z3, σ = [some (.int n), some (.ref a), z1, z2, z3] ∧ G' = G ∧ M' = M ∧ ∀ c ∈ cs.take i, 0 ≤ c.1 ∧ c.1 < c.2 ∧ c.2 < n) S (by walk_at "gv") ⟨_, _, _, rfl, rfl, rfl, fun c hc => by simp at hc⟩ (fun i σ G' M' hI H' S' => ?_) (fun i x3 σ G' M' H' hx3 hI S' => ?_) (fun σ G' M' H' hI S' => ?_)
  · obtain ⟨_, _, _, rfl, rfl, _⟩ := hI
    exact S'.g _ _ ha
  · obtain ⟨z1, z2, z3, rfl, rfl, rfl, hp⟩ := hI
    obtain ⟨c, ec, b, x2, y2, rfl, hb, h1, h2⟩ := al.at hx3
    cases h1
    cases h2
    walk_at "rd"
    refine rd_ite (fun h1 => ?_) (fun h1 => ?_)
    · walk_at "rd"
      refine rd_ite (fun h2 => ?_) (fun h2 => ?_)
      · walk_at "rd"
        refine rd_iteNd (fun h3 => ?_) (fun h3 => ?_)
        · walk_at "rd"
          exact hbad _ _ (Same.refl _) S'
        · walk_at "rd"
          refine ⟨_, _, S', _, _, _, rfl, rfl, rfl, fun c' hc' => ?_⟩
          rw [take_push ec] at hc'
          rcases List.mem_append.mp hc' with hc' | hc'
          · exact hp c' hc'
          · have := List.mem_singleton.mp hc'
            subst this
            exact ⟨h1, h2, h3⟩
      · walk_at "rd"
        refine iteT ?_
        walk_at "rd"
        exact hbad _ _ (Same.refl _) S'
    · walk_at "rd"
      refine iteT ?_
      walk_at "rd"
      exact hbad _ _ (Same.refl _) S'
  · obtain ⟨z1, z2, z3, rfl, rfl, rfl, hp⟩ := hI
    rw [al.len, List.take_length] at hp
    walk_at "rd"
    apply rd_fL
    walk_at "rd"
    refine ⟨_, _, n, S', ⟨_, rfl, rfl, hn⟩, fun v G1 H1 E1 S1 ⟨b, ys, ev, hb, bl⟩ => ?_⟩
    cases ev
    refine loopL ys (fun i σ G3 M3 => ∃ z1 z2 z3, σ = [some (.int n), some (.ref a), z1, z2, z3] ∧ Same G1 G3 ∧ M3 = M' ∧ ∀ r ∈ (plainM n).take i, sortedM (passedM r cs) = true) S1 gv_cE ⟨_, _, _, rfl, Same.refl _, rfl, fun c hc => by simp at hc⟩ (fun i σ G3 M3 hI H3 S3 => ?_) (fun i x3 σ G3 M3 H3 hx3 hI S3 => ?_) (fun σ G3 M3 H3 hI S3 => ?_)
    · obtain ⟨_, _, _, rfl, E3, _⟩ := hI
      exact S3.g _ _ (E3 _ _ hb)
    · obtain ⟨y1, y2, y3, rfl, E3, rfl, hq⟩ := hI
      obtain ⟨r, er, hr3⟩ := bl.at hx3
      have hrl : r.length = n := plainM_row n r (List.mem_of_getElem? er)
      walk_at "rd"
      refine ⟨G3, _, (r, cs), S3, ⟨_, _, rfl, up_TI _ _ _ _ E3 hr3, .inl (up_T up_P _ _ _ _ (E1.trans E3) ⟨a, xs, rfl, ha, al⟩), fun c hc => ?_⟩, fun v G4 H4 E4 S4 h4 => ?_⟩
      · obtain ⟨q1, q2, q3⟩ := hp c hc
        dsimp only
        rw [hrl]
        exact ⟨q1, by omega, by omega, q3⟩
      · walk_at "rd"
        refine ⟨G4, _, passedM r cs, S4, ⟨_, rfl, h4, by rw [passedM_len]; omega⟩, fun v G5 H5 E5 S5 h5 => ?_⟩
        subst h5
        walk_at "rd"
        refine rd_iteN (fun h6 => ?_) (fun h6 => ?_)
        · walk_at "rd"
          exact hbad _ _ (((E1.trans E3).trans E4).trans E5) S5
        · walk_at "rd"
          refine ⟨_, _, S5, _, _, _, rfl, (E3.trans E4).trans E5, rfl, fun r' hr' => ?_⟩
          rw [take_push er] at hr'
          rcases List.mem_append.mp hr' with hr' | hr'
          · exact hq r' hr'
          · have := List.mem_singleton.mp hr'
            subst this
            exact h6
    · obtain ⟨y1, y2, y3, rfl, E3, rfl, hq⟩ := hI
      rw [bl.len, List.take_length] at hq
      walk_at "rd"
      exact k _ _ _ (E1.trans E3) S3 ⟨true, rfl, fun _ => ⟨hp, hq⟩⟩
end
/-- the class of networks, as it stands behind the top -/
structure NetOk (P : Program) (w : World) (K : PySem.W.Frag) (mg : Str → Option Value) (base : Heap) (C : Addr) : Prop where
  cl : Cls K C
  nW : NoAttr K C "wires"
  nC : NoAttr K C "comparers"
  mgC : mg "Network" = some (.ref C)
  mkr : ∃ f fd, Mk K C f ∧ FnOk P w K mg base CX0 1 f fd ["self", "wires", "comparers"] (sp_init C) ∧ Binds K fd ["self", "wires", "comparers"] []
theorem pe_new {X : Cx} {C : Addr} {j : Nat} {p pos : Pos} {e : Expr} {es : List Expr} {t : TA} (hN : NetOk X.prog X.w X.K X.mg X.base C) (hr : Room j X.A)
    (ha : PA X (e :: es) t) (hj : 2 ≤ j := by decide) (hg : Gl X "Network" := by rfl)
    (he : starEach (e :: es) X.env = (false, eval e X.env) :: starEach es X.env := by rfl) (hpl : (backTo pos (starEach es X.env)).any (·.1) = false := by rfl) :
    PE X (.Call (.Name "Network" p) (e :: es) [] pos) (tMake C (sp_init C) [] E0 t) := by
  obtain ⟨f, fd, M, F, b⟩ := hN.mkr
  exact pe_make M F (hr.mono hj) hg hN.mgC b .nil pass0 ha (by decide) he hpl
end N
/-! NJ: the judge -/
namespace N
open PySem L2
theorem scM_in {n : Nat} {c : Cp} (h : c ∈ scM n) : CpIn n c := by
  unfold scM at h
  obtain ⟨i, hi, h⟩ := List.mem_flatMap.mp h
  obtain ⟨j, hj, rfl⟩ := List.mem_map.mp h
  have := List.mem_range.mp hi
  have := List.mem_range.mp hj
  refine ⟨?_, ?_, ?_, ?_⟩ <;> dsimp only <;> omega
theorem steps_sc (n : Nat) : StepsOk n ((scM n).map fun c => [c]) := by
  intro st hs c hc
  obtain ⟨d, hd, rfl⟩ := List.mem_map.mp hs
  have := List.mem_singleton.mp hc
  subst this
  exact scM_in hd
theorem slM_mem (n : Nat) : ∀ (l : List Cp) (fd : List (List Cp)), (∀ c ∈ l, CpIn n c) → StepsOk n fd → StepsOk n (l.foldl (fun found c => [[c]] ++ ((found.filter (apartM c ·)).map (c :: ·)) ++ found) fd)
  | [], _, _, h => h
  | c :: l, fd, h1, h2 => by
    rw [List.foldl_cons]
    refine slM_mem n l _ (fun d hd => h1 d (List.mem_cons_of_mem _ hd)) fun st hs d hd => ?_
    have hc := h1 c (List.mem_cons_self ..)
    simp only [List.mem_append, List.mem_map, List.mem_filter, List.mem_singleton] at hs
    rcases hs with (rfl | ⟨st', ⟨h3, _⟩, rfl⟩) | h3
    · have := List.mem_singleton.mp hd
      subst this
      exact hc
    · rcases List.mem_cons.mp hd with rfl | hd
      · exact hc
      · exact h2 st' h3 d hd
    · exact h2 st h3 d hd
theorem steps_sl (n : Nat) : StepsOk n (slM n) := slM_mem n _ _ (fun c hc => scM_in (List.mem_reverse.mp hc)) (fun st h => by cases h)
theorem rd_make {C : Addr} {sp : Sp} {dvs : List V} {E : XK} {t : TA} {σ : L2.St} {H : Hp} {Q : VK} (h : t σ H fun vs H1 => ∀ x dx, H1 x = none → H1 dx = none → dx ≠ x → sp (.ref x :: (vs ++ dvs)) (upd (upd H1 dx (.own x)) x (.ins C dx [])) (fun v H2 => v = .non ∧ Q (.ref x) H2) E) : tMake C sp dvs E t σ H Q := h
section
variable {P : Program} {w : World} {K : PySem.W.Frag} {mg : Str → Option Value} {base : Heap}
/-- the paper: its word, its comparers, its levels -/
abbrev Paper := Str × List Cp × List Lv
def rPaper (x : Paper) (v : V) (G : Hp) : Prop := ∃ p vc vl, v = .ref p ∧ G p = some (.tup [.str x.1, vc, vl]) ∧ rT rP x.2.1 vc G ∧ rT rLv x.2.2 vl G
def PaperOk (x : Paper) : Prop := (∀ l ∈ x.2.2, LvOk l) ∧ x.2.1.length ≤ 4000 ∧ x.2.2.length ≤ 4000
theorem up_paper : Up rPaper := fun _ _ _ _ E ⟨p, vc, vl, e, h, h2, h3⟩ => ⟨p, vc, vl, e, E _ _ h, up_T up_P _ _ _ _ E h2, up_T up_Lv _ _ _ _ E h3⟩
def Fewest (n : Nat) (number : Int) (x : Paper) : Prop := x.1 = "fewest" ∧ (x.2.1.length : Int) = number ∧ (x.2.2.length : Int) = number ∧ SorterOk n x.2.1 ∧ NeedOk n x.2.2 ((scM n).map fun c => [c])
def Layers (n : Nat) (number : Int) (x : Paper) : Prop := x.1 = "layers" ∧ (x.2.2.length : Int) = number ∧ SorterOk n x.2.1 ∧ (depthM n x.2.1 : Int) = number ∧ NeedOk n x.2.2 (slM n)
def sp_takes_fewest : Sp := pureSp (fun (x : Nat × Int × Paper) vs G => ∃ v1 v2 v3, vs = [v1, v2, v3] ∧ v1 = .int (x.1 : Int) ∧ v2 = .int x.2.1 ∧ rPaper x.2.2 v3 G ∧ 1 ≤ x.1 ∧ x.1 ≤ 4 ∧ PaperOk x.2.2)
  (fun x v _ => ∃ b, v = .bl b ∧ (b = true → Fewest x.1 x.2.1 x.2.2))
def sp_takes_layers : Sp := pureSp (fun (x : Nat × Int × Paper) vs G => ∃ v1 v2 v3, vs = [v1, v2, v3] ∧ v1 = .int (x.1 : Int) ∧ v2 = .int x.2.1 ∧ rPaper x.2.2 v3 G ∧ 1 ≤ x.1 ∧ x.1 ≤ 4 ∧ PaperOk x.2.2)
  (fun x v _ => ∃ b, v = .bl b ∧ (b = true → Layers x.1 x.2.1 x.2.2))
theorem ok_takes_fewest (T : Bt mg) (F : Dfn K mg "takes_fewest" s_takes_fewest) (h_is_standard_sorter : Has P w K mg base 2 "is_standard_sorter" ["wires", "comparers"] sp_is_standard_sorter) (h_standard_comparers : Has P w K mg base 1 "standard_comparers" ["wires"] sp_standard_comparers)
    (h_shows_need : Has P w K mg base 4 "shows_need" ["wires", "levels", "steps"] sp_shows_need) : Has P w K mg base 5 "takes_fewest" ["wires", "number", "paper"] sp_takes_fewest := by
  refine F.ok sc_takes_fewest (fun _ _ _ _ _ _ us hl => match us, hl with | [_, _, _], _ => rfl) (fun vs H Q E h => by obtain ⟨_, _, _, _, ⟨_, _, _, rfl, _⟩, _⟩ := h; rfl) (fun f cdv A outer s H vs Q E hr h => ?_)
  obtain ⟨G, M, ⟨n, number, word, cs, ls⟩, S, ⟨v1, v2, v3, rfl, rfl, rfl, ⟨p, vc, vl, rfl, hp, ⟨a, xs, rfl, ha, al⟩, ⟨b, ys, rfl, hb, bl⟩⟩, hn, hn4, hls, hcz, hlz⟩, k⟩ := h
  dsimp only at k al bl hn hn4 hls hp hcz hlz
  refine ⟨_, (pss_cons (ps_asg (pv 2) (pgT K 3 rfl (pgs_cons (pg_name (i := 3) sc_takes_fewest.nd rfl (Or.inl rfl)) (pgs_cons (pg_name (i := 4) sc_takes_fewest.nd rfl (Or.inl rfl)) (pgs_cons (pg_name (i := 5) sc_takes_fewest.nd rfl (Or.inl rfl)) pgs_nil)))))
    (pss_cons (ps_if (PW.pt (pw_or (pt_cmpR op_ne (pv 3) pe_str (nomark _)) (pw_or (pt_cmpR op_ne (pe_callB (lenS K) (by rfl) T.len PySem.boot_len (pa_cons (pv 4) pa_nil)) (pv 1) (nomark _)) (pw_or1 (pt_cmpR op_ne (pe_callB (lenS K) (by rfl) T.len PySem.boot_len (pa_cons (pv 5) pa_nil)) (pv 1) (nomark _))))))
     (pss_one (ps_ret pe_bl))
     pss_nil)
    (pss_cons (ps_if (pt_not (pt_val (pe_fn h_is_standard_sorter hr (pa_cons (pv 0) (pa_cons (pv 4) pa_nil)))))
     (pss_one (ps_ret pe_bl))
     pss_nil)
    (pss_cons (ps_setLc (i := 6) (own := [("comparer", 7)]) rfl sc_takes_fewest.nd rfl rfl (sw_true rfl rfl rfl (by decide +kernel)) (piL K (pe_fn h_standard_comparers hr (pa_cons (pv 0) pa_nil))) (blkOk_by (N := ["wires", "number", "paper", "word", "comparers", "levels", "steps", "comparer"]) (sc := defScope s_takes_fewest) (by decide +kernel)) (fun _ _ _ _ _ => (pg_name (i := 7) sc_takes_fewest.nd rfl (Or.inl rfl))) (fun _ _ _ _ _ => pts_nil) (fun _ _ _ _ _ => (pe_lst (pa_cons (pv 7) pa_nil))))
    (pss_one (ps_ret (pe_fn h_shows_need hr (pa_cons (pv 0) (pa_cons (pv 5) (pa_cons (pv 6) pa_nil)))))))))), ?_⟩
  have hbad : ∀ Gx Hx, Same G Gx → Hs Gx M Hx → Q (.bl false) Hx := fun Gx Hx Ex Sx => k _ Gx Hx Ex Sx ⟨false, rfl, nofun⟩
  walk_at "rd"
  refine rd_ite (fun h1 => ?_) (fun h1 => ?_)
  · walk_at "rd"
    refine iteT ?_
    walk_at "rd"
    exact hbad _ _ (Same.refl _) S
  walk_at "rd"
  refine rd_ite (fun h2 => ?_) (fun h2 => ?_)
  · walk_at "rd"
    refine iteT ?_
    walk_at "rd"
    exact hbad _ _ (Same.refl _) S
  walk_at "rd"
  refine rd_ite (fun h3 => ?_) (fun h3 => ?_)
  · walk_at "rd"
    exact hbad _ _ (Same.refl _) S
  walk_at "rd"
  refine ⟨G, M, (n, cs), S, ⟨_, _, rfl, rfl, ⟨a, xs, rfl, ha, al⟩, by dsimp only; omega⟩, fun v G1 H1 E1 S1 ⟨c1, ec1, hc1⟩ => ?_⟩
  subst ec1
  walk_at "rd"
  refine rd_iteN (fun h4 => ?_) (fun h4 => ?_)
  · walk_at "rd"
    exact hbad _ _ E1 S1
  walk_at "rd"
  apply rd_cL
  walk_at "rd"
  refine ⟨G1, M, n, S1, ⟨_, rfl, rfl, by omega⟩, fun v G2 H2 E2 S2 ⟨c, zs, ev, hc, cl⟩ => ?_⟩
  cases ev
  refine compL (R := rL rP) (up_L up_P) (((scM n).map fun c => [c]).map some) S2 gv_cE hc (by simp [cl.len]) ?_ (by intro _; rfl) yes_all (fun i x1 y G3 M2 H3 hx1 ho E3 S3 Q' kk => ?_) (fun q acc G3 H3 E3 S3 e al2 => ?_)
  · have hsc : (scM n).length ≤ 6 := by
      have : ∀ m : Nat, m ≤ 4 → (scM m).length ≤ 6 := by decide
      exact this n hn4
    simp [sizeLine_eq]
    omega
  · have ey := some_at ho
    obtain ⟨d, ed, hd⟩ := cl.at hx1
    rw [List.getElem?_map, ed] at ey
    cases ey
    walk_at "rd"
    refine al_lst S3 (by walk_at "gv") (by rw [sizeLine_eq]; simp) (fun l G4 H4 E4 S4 f4 => ?_)
    exact kk _ G4 H4 E4 S4 ⟨l, _, rfl, f4, All2.nil.cons (up_P _ _ _ _ (E3.trans E4) hd)⟩
  · rw [filt_some] at al2
    walk_at "rd"
    refine ⟨G3, M, (n, ls, (scM n).map fun c => [c]), S3, ⟨_, _, _, rfl, rfl, up_T up_Lv _ _ _ _ ((E1.trans E2).trans E3) ⟨b, ys, rfl, hb, bl⟩, ⟨q, acc, rfl, e, al2⟩, hls, steps_sc n, by dsimp only; omega, hlz⟩, fun v G4 H4 E4 S4 ⟨c2, ec2, hc2⟩ => ?_⟩
    subst ec2
    refine k _ G4 H4 (((E1.trans E2).trans E3).trans E4) S4 ⟨c2, rfl, fun h5 => ⟨?_, ?_, ?_, hc1 h4, hc2 h5⟩⟩
    · exact Classical.byContradiction fun z => h1 z
    · have e1 := al.len
      have e2 := Decidable.of_not_not h2
      dsimp only at e2 ⊢
      omega
    · have e1 := bl.len
      have e2 := Decidable.of_not_not h3
      dsimp only at e2 ⊢
      omega
theorem ok_takes_layers {C : Addr} (hN : NetOk P w K mg base C) (T : Bt mg) (F : Dfn K mg "takes_layers" s_takes_layers) (h_is_standard_sorter : Has P w K mg base 2 "is_standard_sorter" ["wires", "comparers"] sp_is_standard_sorter) (h_depth : Has P w K mg base 2 "depth" ["network"] (sp_depth (K := K)))
    (h_standard_layers : Has P w K mg base 2 "standard_layers" ["wires"] sp_standard_layers) (h_shows_need : Has P w K mg base 4 "shows_need" ["wires", "levels", "steps"] sp_shows_need) : Has P w K mg base 5 "takes_layers" ["wires", "number", "paper"] sp_takes_layers := by
  refine F.ok sc_takes_layers (fun _ _ _ _ _ _ us hl => match us, hl with | [_, _, _], _ => rfl) (fun vs H Q E h => by obtain ⟨_, _, _, _, ⟨_, _, _, rfl, _⟩, _⟩ := h; rfl) (fun f cdv A outer s H vs Q E hr h => ?_)
  obtain ⟨G, M, ⟨n, number, word, cs, ls⟩, S, ⟨v1, v2, v3, rfl, rfl, rfl, ⟨p, vc, vl, rfl, hp, ⟨a, xs, rfl, ha, al⟩, ⟨b, ys, rfl, hb, bl⟩⟩, hn, hn4, hls, hcz, hlz⟩, k⟩ := h
  dsimp only at k al bl hn hn4 hls hp hcz hlz
  refine ⟨_, (pss_cons (ps_asg (pv 2) (pgT K 3 rfl (pgs_cons (pg_name (i := 3) sc_takes_layers.nd rfl (Or.inl rfl)) (pgs_cons (pg_name (i := 4) sc_takes_layers.nd rfl (Or.inl rfl)) (pgs_cons (pg_name (i := 5) sc_takes_layers.nd rfl (Or.inl rfl)) pgs_nil)))))
    (pss_cons (ps_if (PW.pt (pw_or (pt_cmpR op_ne (pv 3) pe_str (nomark _)) (pw_or1 (pt_cmpR op_ne (pe_callB (lenS K) (by rfl) T.len PySem.boot_len (pa_cons (pv 5) pa_nil)) (pv 1) (nomark _)))))
     (pss_one (ps_ret pe_bl))
     pss_nil)
    (pss_cons (ps_if (pt_not (pt_val (pe_fn h_is_standard_sorter hr (pa_cons (pv 0) (pa_cons (pv 4) pa_nil)))))
     (pss_one (ps_ret pe_bl))
     pss_nil)
    (pss_cons (ps_if (pt_cmpR op_ne (pe_fn h_depth hr (pa_cons (pe_new hN hr (pa_cons (pv 0) (pa_cons (pe_callTy (lstO K) (by rfl) T.list (by decide +kernel) (pa_cons (pv 4) pa_nil)) pa_nil))) pa_nil)) (pv 1) (nomark _))
     (pss_one (ps_ret pe_bl))
     pss_nil)
    (pss_one (ps_ret (pe_fn h_shows_need hr (pa_cons (pv 0) (pa_cons (pv 5) (pa_cons (pe_fn h_standard_layers hr (pa_cons (pv 0) pa_nil)) pa_nil)))))))))), ?_⟩
  have hbad : ∀ Gx Hx, Same G Gx → Hs Gx M Hx → Q (.bl false) Hx := fun Gx Hx Ex Sx => k _ Gx Hx Ex Sx ⟨false, rfl, nofun⟩
  walk_at "rd"
  refine rd_ite (fun h1 => ?_) (fun h1 => ?_)
  · walk_at "rd"
    refine iteT ?_
    walk_at "rd"
    exact hbad _ _ (Same.refl _) S
  walk_at "rd"
  refine rd_ite (fun h3 => ?_) (fun h3 => ?_)
  · walk_at "rd"
    exact hbad _ _ (Same.refl _) S
  walk_at "rd"
  refine ⟨G, M, (n, cs), S, ⟨_, _, rfl, rfl, ⟨a, xs, rfl, ha, al⟩, by dsimp only; omega⟩, fun v G1 H1 E1 S1 ⟨c1, ec1, hc1⟩ => ?_⟩
  subst ec1
  walk_at "rd"
  refine rd_iteN (fun h4 => ?_) (fun h4 => ?_)
  · walk_at "rd"
    exact hbad _ _ E1 S1
  have hso : SorterOk n cs := hc1 h4
  have hcp : ∀ c ∈ cs, CpOk n c := fun c hc => by
    obtain ⟨q1, q2, q3⟩ := hso.1 c hc
    exact ⟨q1, by omega, by omega, q3, by omega⟩
  walk_at "rd"
  apply rd_make
  walk_at "rd"
  refine al_lsT S1 (S1.g _ _ (E1 _ _ ha)) (fun l G2 H2 E2 S2 f2 => ?_)
  walk_at "rd"
  intro x dx hx hdx hne
  obtain ⟨M3, e3, S3, f3⟩ := S2.addM (o := .own x) hdx
  have hx3 : upd H2 dx (.own x) x = none := by rw [upd_ne (Ne.symm hne)]; exact hx
  obtain ⟨M4, e4, S4, f4⟩ := S3.addM (o := .ins C dx []) hx3
  have k4 : Kept M M4 := ((Kept.refl M).chg e3 (S2.fm hdx)).chg e4 (S2.fm hx)
  refine ⟨G2, M4, x, dx, .ref l, n, cs, S4, rfl, f4, ⟨l, xs, rfl, f2, al.up up_P (E1.trans E2)⟩, by omega, hcp, hcz, fun G5 M5 H5 t E5 e5 S5 f5 ht => ⟨rfl, ?_⟩⟩
  walk_at "rd"
  refine ⟨G5, M5, x, C, dx, t, n, cs, S5, rfl, f5, hN.cl, hN.nW, hN.nC, ht, by omega, hcp, hcz, fun G6 H6 E6 S6 => ?_⟩
  obtain ⟨G7, E7, S7, _⟩ := S6.dropAll (k4.chg e5 (S2.fm hx))
  have E17 := (((E1.trans E2).trans E5).trans E6).trans E7
  walk_at "rd"
  refine rd_ite (fun h5 => ?_) (fun h5 => ?_)
  · walk_at "rd"
    exact hbad _ _ E17 S7
  walk_at "rd"
  refine ⟨G7, M, n, S7, ⟨_, rfl, rfl, hn4⟩, fun v G8 H8 E8 S8 h8 => ?_⟩
  walk_at "rd"
  refine ⟨G8, M, (n, ls, slM n), S8, ⟨_, _, _, rfl, rfl, up_T up_Lv _ _ _ _ (E17.trans E8) ⟨b, ys, rfl, hb, bl⟩, h8, hls, steps_sl n, by dsimp only; omega, hlz⟩, fun v G9 H9 E9 S9 ⟨c2, ec2, hc2⟩ => ?_⟩
  subst ec2
  have e2 := Decidable.of_not_not h3
  have e3 := Decidable.of_not_not h5
  have e4 := bl.len
  dsimp only at e2 e3
  refine k _ G9 H9 ((E17.trans E8).trans E9) S9 ⟨c2, rfl, fun h6 => ⟨?_, ?_, hso, ?_, hc2 h6⟩⟩
  · exact Classical.byContradiction fun z => h1 z
  · dsimp only
    omega
  · dsimp only
    omega
end
end N
/-! LA: the law: numbers, draws, rows, codes -/
namespace N
open PySem L2
theorem off_refl {p : Addr → Prop} {M : Hp} : Off p M M := fun _ _ => rfl
theorem off_trans {p : Addr → Prop} {A B C : Hp} (h : Off p A B) (k : Off p B C) : Off p A C := fun a ha => (k a ha).trans (h a ha)
theorem off_ne {p : Addr → Prop} {A B C : Hp} {x : Addr} (h : Off p A B) (e : ∀ b, b ≠ x → C b = B b) (hx : p x) : Off p A C := fun a ha => (e a fun z => ha (z ▸ hx)).trans (h a ha)
theorem fm2_len : ∀ l : List Row, (l.flatMap fun r => [r ++ [(0 : Int)], r ++ [1]]).length = 2 * l.length
  | [] => rfl
  | r :: l => by
    simp only [List.flatMap_cons, List.length_append, fm2_len l, List.length_cons, List.length_nil]
    omega
section
variable {P : Program} {w : World} {K : PySem.W.Frag} {mg : Str → Option Value} {base : Heap}
def sp_l_draw : Sp := drawSp (fun (limit : Int) R vs _ => ∃ v1 v2, vs = [v1, v2] ∧ v1 = .ref R ∧ v2 = .int limit ∧ 0 < limit) (fun limit v _ => ∃ i : Int, v = .int i ∧ 0 ≤ i ∧ i < limit)
theorem ok_l_draw (T : Bt mg) (F : Dfn K mg "_law_draw" s_l_draw) : Has P w K mg base 1 "_law_draw" ["_law_rest", "_law_limit"] sp_l_draw := by
  refine F.ok sc_l_draw (fun _ _ _ _ _ _ us hl => match us, hl with | [_, _], _ => rfl) (fun vs H Q E h => by obtain ⟨_, _, _, _, _, _, ⟨_, _, rfl, _⟩, _⟩ := h; rfl) (fun f cdv A outer s H vs Q E hr h => ?_)
  obtain ⟨G, M, R, limit, S, ⟨ns, hm⟩, ⟨v1, v2, rfl, rfl, rfl, hl⟩, k⟩ := h
  refine ⟨_, (pss_cons (ps_if (pt_cmpR op_eq (pe_callB (lenS K) (by rfl) T.len PySem.boot_len (pa_cons (pv 0) pa_nil)) pe_int (nomark _))
     (pss_one (ps_ret pe_int))
     pss_nil)
    (pss_one (ps_ret (pe_op op_mod (pe_callTy call_int1 (by rfl) T.int (by decide +kernel) (pa_cons (pe_bm0 PySem.F.plainAttrs_list PySem.F.slot_list_pop PySem.F.type_list_pop mt_pop (pv 0)) pa_nil)) (pv 1))))), ?_⟩
  walk_at "rd"
  refine rd_ite (fun h0 => ?_) (fun h0 => ?_)
  · walk_at "rd"
    exact k _ G M H (Same.refl _) off_refl ⟨ns, hm⟩ S ⟨0, rfl, Int.le_refl _, hl⟩
  · have hn : ns.length - 1 < ns.length := by simp at h0; have := List.length_pos_iff.mpr h0; omega
    walk_at "rd"
    refine ⟨ty_lst (S.m _ _ hm), R, _, .int (ns[ns.length - 1]), rfl, rfl, S.m _ _ hm, by rw [List.length_map, List.getElem?_map, List.getElem?_eq_getElem hn]; rfl, ?_⟩
    obtain ⟨M1, e1, S1, f1⟩ := S.chg hm (.lst (ns.map V.int).dropLast)
    walk_at "rd"
    refine .inl ⟨_, rfl, ?_⟩
    walk_at "rd"
    exact k _ G M1 _ (Same.refl _) (off_ne off_refl e1 rfl) ⟨ns.dropLast, by rw [f1, List.map_dropLast]⟩ S1 ⟨_, rfl, Int.emod_nonneg _ (by omega), Int.emod_lt_of_pos _ hl⟩
def codeM (r : Row) : Int := r.foldl (fun a d => 2 * a + d) 0
def sp_l_code : Sp := pureSp (fun (r : Row) vs G => ∃ v, vs = [v] ∧ rTI r v G) (fun r v _ => v = .int (codeM r))
theorem ok_l_code (T : Bt mg) (F : Dfn K mg "_law_code" s_l_code) : Has P w K mg base 1 "_law_code" ["_law_row"] sp_l_code := by
  refine F.ok sc_l_code (fun _ _ _ _ _ _ us hl => match us, hl with | [_], _ => rfl) (fun vs H Q E h => by obtain ⟨_, _, _, _, ⟨_, rfl, _⟩, _⟩ := h; rfl) (fun f cdv A outer s H vs Q E hr h => ?_)
  obtain ⟨G, M, r, S, ⟨v, rfl, ⟨a, rfl, ha⟩⟩, k⟩ := h
  refine ⟨_, (pss_cons (ps_set (i := 1) sc_l_code.nd rfl (Or.inl rfl) pe_int)
    (pss_cons (ps_for PassesOwn.never rfl (piT K (pv 0)) (pg_name (i := 2) sc_l_code.nd rfl (Or.inl rfl))
     (pss_one (ps_set (i := 1) sc_l_code.nd rfl (Or.inl rfl) (pe_op op_add (pe_op op_mul pe_int (pv 1)) (pv 2)))))
    (pss_one (ps_ret (pv 1))))), ?_⟩
  walk_at "rd"
  refine loopT (r.map V.int) (fun i σ G' M' => ∃ z, σ = [some (.ref a), some (.int (codeM (r.take i))), z] ∧ G' = G ∧ M' = M) S (by walk_at "gv") ⟨_, rfl, rfl, rfl⟩ (fun i σ G' M' hI H' S' => ?_) (fun i x3 σ G' M' H' hx3 hI S' => ?_) (fun σ G' M' H' hI S' => ?_)
  · obtain ⟨_, rfl, rfl, _⟩ := hI
    exact S'.g _ _ ha
  · obtain ⟨z, rfl, rfl, rfl⟩ := hI
    obtain ⟨d, ed, rfl⟩ := int_at hx3
    walk_at "rd"
    refine ⟨_, _, rfl, rfl, .inl ⟨by decide, by decide⟩, ?_⟩
    walk_at "rd"
    refine ⟨_, _, S', some (.int d), ?_, rfl, rfl⟩
    rw [take_push ed]
    unfold codeM
    rw [List.foldl_append]
    rfl
  · obtain ⟨z, rfl, rfl, rfl⟩ := hI
    rw [List.length_map, List.take_length]
    walk_at "rd"
    exact k _ _ _ (Same.refl _) S' rfl
def sp_l_rows : Sp := pureSp (fun (n : Nat) vs _ => ∃ v, vs = [v] ∧ v = .int (n : Int) ∧ n ≤ 8) (fun n v G => rL rTI (plainM n) v G)
theorem ok_l_rows (T : Bt mg) (F : Dfn K mg "_law_rows" s_l_rows) : Has P w K mg base 1 "_law_rows" ["_law_wires"] sp_l_rows := by
  refine F.ok sc_l_rows (fun _ _ _ _ _ _ us hl => match us, hl with | [_], _ => rfl) (fun vs H Q E h => by obtain ⟨_, _, _, _, ⟨_, rfl, _⟩, _⟩ := h; rfl) (fun f cdv A outer s H vs Q E hr h => ?_)
  obtain ⟨G, M, n, S, ⟨v, rfl, rfl, hn⟩, k⟩ := h
  refine ⟨_, (pss_cons (ps_set (i := 1) sc_l_rows.nd rfl (Or.inl rfl) (pe_lst (pa_cons (pe_tup pa_nil) pa_nil)))
    (pss_cons (ps_for PassesOwn.never rfl (pi_range1 (by rfl) T.range (pa_cons (pv 0) pa_nil)) (pg_name (i := 2) sc_l_rows.nd rfl (Or.inl rfl))
     (pss_cons (ps_set (i := 3) sc_l_rows.nd rfl (Or.inl rfl) (pe_lst pa_nil))
     (pss_cons (ps_for PassesOwn.never rfl (piL K (pv 1)) (pg_name (i := 4) sc_l_rows.nd rfl (Or.inl rfl))
      (pss_cons (ps_expr (pe_bm PySem.F.plainAttrs_list PySem.F.slot_list_append PySem.F.type_list_append mt_append (pv 3) (pa_cons (pe_op (catA K) (pv 4) (pe_tup (pa_cons pe_int pa_nil))) pa_nil)))
      (pss_one (ps_expr (pe_bm PySem.F.plainAttrs_list PySem.F.slot_list_append PySem.F.type_list_append mt_append (pv 3) (pa_cons (pe_op (catA K) (pv 4) (pe_tup (pa_cons pe_int pa_nil))) pa_nil))))))
     (pss_one (ps_set (i := 1) sc_l_rows.nd rfl (Or.inl rfl) (pv 3))))))
    (pss_one (ps_ret (pv 1))))), ?_⟩
  walk_at "rd"
  apply rd_lst
  walk_at "rd"
  refine al_tup S (by walk_at "gv") (by simp) (fun p0 G1 H1 E1 S1 f1 => ?_)
  walk_at "rd"
  refine ⟨by simp [sizeLine_eq], fun p1 hp1 => ?_⟩
  obtain ⟨G2, E2, S2, f2⟩ := S1.addG (o := .lst [.ref p0]) hp1
  walk_at "rd"
  refine loopR (n := n) (fun i σ G' M' => ∃ a x y z, σ = [some (.int n), some (.ref a), x, y, z] ∧ Same G G' ∧ M' = M ∧ rL rTI (plainM i) (.ref a) G') S2 (by walk_at "gv") (by omega)
    ⟨p1, _, _, _, rfl, E1.trans E2, rfl, p1, _, rfl, f2, All2.nil.cons ⟨p0, rfl, E2 _ _ f1⟩⟩ (fun i σ G3 M3 H3 hi hI S3 => ?_) (fun σ G3 M3 H3 hI S3 => ?_)
  · obtain ⟨a, x, y, z, rfl, E3, rfl, ⟨a2, xs, ea, fa, al⟩⟩ := hI
    cases ea
    walk_at "rd"
    refine al_lstM S3 (by walk_at "gv") (by simp) (fun pl M4 H4 e4 S4 f4 n4 _ => ?_)
    walk_at "rd"
    refine loopL xs (fun j σ G' M' => ∃ x z acc, σ = [some (.int n), some (.ref a), x, some (.ref pl), z] ∧ Same G3 G' ∧ (∀ b, b ≠ pl → M' b = M3 b) ∧ M' pl = some (.lst acc) ∧ All2 rTI G' (((plainM i).take j).flatMap fun r => [r ++ [0], r ++ [1]]) acc)
      S4 (by walk_at "gv") ⟨_, _, [], rfl, Same.refl _, e4, f4, All2.nil⟩ (fun j σ G' M' hI H' S' => ?_) (fun j x3 σ G' M' H' hx3 hI S' => ?_) (fun σ G' M' H' hI S' => ?_)
    · obtain ⟨_, _, _, rfl, E', _⟩ := hI
      exact S'.g _ _ (E' _ _ fa)
    · obtain ⟨x, z, acc, rfl, E', e', f', al'⟩ := hI
      obtain ⟨r, er, b, eb, fb⟩ := al.at hx3
      subst eb
      have hrl := plainM_row i r (List.mem_of_getElem? er)
      have hj : j < (plainM i).length := (List.getElem?_eq_some_iff.mp er).1
      have hb' := E' _ _ fb
      have hacc : acc.length ≤ 2 * j := by
        rw [al'.len, fm2_len, List.length_take]
        omega
      have hpl := plainM_len i
      have hle : 2 ^ i ≤ 2 ^ 8 := Nat.pow_le_pow_right (by decide) (by omega)
      walk_at "rd"
      refine ⟨ty_lst (S'.m _ _ f'), ?_⟩
      walk_at "rd"
      refine al_tup S' (by walk_at "gv") (by simp [sizeLine_eq]) (fun p G5 H5 E5 S5 f5 => ?_)
      refine al_catT S5 (E5 _ _ hb') f5 (by simp [sizeLine_eq, hrl]; omega) (fun l G6 H6 E6 S6 f6 => ?_)
      walk_at "rd"
      refine rd_appM S6 f' (by rw [sizeLine_eq]; omega) (fun M7 H7 e7 S7 f7 => ?_)
      walk_at "rd"
      refine ⟨ty_lst (S7.m _ _ f7), ?_⟩
      walk_at "rd"
      refine al_tup S7 (by walk_at "gv") (by simp [sizeLine_eq]) (fun p2 G8 H8 E8 S8 f8 => ?_)
      refine al_catT S8 (E8 _ _ (E6 _ _ (E5 _ _ hb'))) f8 (by simp [sizeLine_eq, hrl]; omega) (fun l2 G9 H9 E9 S9 f9 => ?_)
      walk_at "rd"
      refine rd_appM S9 f7 (by rw [List.length_append, sizeLine_eq]; simp; omega) (fun M10 H10 e10 S10 f10 => ?_)
      have E69 := E8.trans E9
      have E59 := (E5.trans E6).trans E69
      refine ⟨_, _, S10, _, _, _, rfl, E'.trans E59, fun b hb => by rw [e10 b hb, e7 b hb, e' b hb], f10, ?_⟩
      rw [take_push er, List.flatMap_append]
      have h10 : All2 rTI G9 [r ++ [0], r ++ [1]] [V.ref l, V.ref l2] := All2.cons ⟨l, rfl, E69 _ _ (by simpa using f6)⟩ (All2.cons ⟨l2, rfl, by simpa using f9⟩ All2.nil)
      have h11 := (al'.up up_TI E59).append h10
      simpa using h11
    · obtain ⟨x, z, acc, rfl, E', e', f', al'⟩ := hI
      obtain ⟨G5, E5, S5, f5⟩ := S'.drop f' e' n4
      walk_at "rd"
      rw [al.len, List.take_length] at al'
      exact ⟨G5, _, S5, pl, _, _, _, rfl, (E3.trans E').trans E5, rfl, pl, acc, rfl, f5, al'.up up_TI E5⟩
  · obtain ⟨a, x, y, z, rfl, E3, rfl, hp⟩ := hI
    walk_at "rd"
    exact k _ _ _ E3 S3 hp
end
end N
local macro_rules | `(tactic| walk_at "r1") => `(tactic| first
  | ((with_reducible apply rd_I); (first | exact ⟨by decide, by decide⟩ | exact Or.inr ⟨by decide, by decide⟩ | exact Or.inl ⟨by decide, by decide⟩ | exact ⟨by decide, by decide, by decide⟩))
  | with_reducible apply rd_sFld | with_reducible apply rd_tFld)
/-! LB: the law: the numbers, the comparers, names -/
namespace N
open PySem L2
theorem rd_lrev {K : PySem.W.Frag} {t : TA} {σ : L2.St} {H : Hp} {Q : VK} (h : t σ H fun vs H1 => ∃ (a : Addr) (xs : List V), vs = [V.ref a] ∧ SqL K H1 a xs ∧ ∀ q, H1 q = none → Q (.ref q) (upd H1 q (.lst xs.reverse))) : tLRev K t σ H Q := h
section
variable {P : Program} {w : World} {K : PySem.W.Frag} {mg : Str → Option Value} {base : Heap}
def sp_l_numbers : Sp := fun vs H Q _ => ∃ (G M : Hp) (v : V) (ns : List Int) (n : Nat), Hs G M H ∧ vs = [v, .int (n : Int)] ∧ rLI ns v G ∧ n ≤ 1000 ∧ ns.length ≤ 1000 ∧
  ∀ R G' M' H', Same G G' → (∀ b, b ≠ R → M' b = M b) → M R = none → Rest M' R → Hs G' M' H' → Q (.ref R) H'
end
end N
/-! LC: the law: comparers, names, passing -/
namespace N
open PySem L2
def scI (n i : Nat) : List Cp := (List.range (n - (i + 1))).map fun (j : Nat) => ((i : Int), ((i + 1 + j : Nat) : Int))
theorem scM_eq (n : Nat) : scM n = (List.range n).flatMap (scI n) := rfl
theorem range_at {n i : Nat} (h : i < n) : (List.range n)[i]? = some i := by rw [List.getElem?_range h]
theorem minmax {r : Row} {a b : Nat} (ha : a < r.length) (hb : b < r.length) (hab : a ≠ b) (x y : Int) (hx : r.getD a 0 = x) (hy : r.getD b 0 = y) :
    (r.set b (if y > x then y else x)).set a (if y < x then y else x) = if y < x then (r.set a y).set b x else r := by
  by_cases h : y < x
  · rw [if_pos h, if_pos h, if_neg (by omega), List.set_comm _ _ hab.symm]
  · rw [if_neg h, if_neg h]
    have e1 : (if y > x then y else x) = y := by split <;> omega
    rw [e1]
    have g1 : r[a] = x := by rw [← hx, List.getD_eq_getElem?_getD, List.getElem?_eq_getElem ha]; rfl
    have g2 : r[b] = y := by rw [← hy, List.getD_eq_getElem?_getD, List.getElem?_eq_getElem hb]; rfl
    rw [← g2, List.set_getElem_self, ← g1, List.set_getElem_self]
def nmI (w : Nat) (ns : Row) : List Row := ((List.range w).filter fun (i : Nat) => !decide (((i : Nat) : Int) ∈ ns)).map fun (i : Nat) => ns ++ [((i : Nat) : Int)]
def nmK (w : Nat) : Nat → List Row
  | 0 => [[]]
  | k + 1 => (nmK w k).flatMap (nmI w)
def namesM (w : Nat) : List Row := nmK w w
theorem nmK_sizes : ∀ w, w ≤ 4 → ∀ k, k ≤ 4 → (nmK w k).length ≤ 64 ∧ ∀ ns ∈ nmK w k, ns.length = k := by decide +kernel
theorem flat_le {α β : Type} (f : α → List β) (b : Nat) : ∀ l : List α, (∀ x ∈ l, (f x).length ≤ b) → (l.flatMap f).length ≤ b * l.length
  | [], _ => by simp
  | x :: l, h => by
    have h1 := h x (List.mem_cons_self ..)
    have h2 := flat_le f b l fun y hy => h y (List.mem_cons_of_mem _ hy)
    simp only [List.flatMap_cons, List.length_append, List.length_cons, Nat.mul_add]
    omega
theorem nmI_len (w : Nat) (ns : Row) : (nmI w ns).length ≤ w := by
  unfold nmI
  rw [List.length_map]
  refine Nat.le_trans (List.length_filter_le _ _) ?_
  rw [List.length_range]
  exact Nat.le_refl _
section
variable {P : Program} {w : World} {K : PySem.W.Frag} {mg : Str → Option Value} {base : Heap}
def sp_l_comparers : Sp := pureSp (fun (n : Nat) vs _ => ∃ v, vs = [v] ∧ v = .int (n : Int) ∧ n ≤ 8) (fun n v G => rL rP (scM n) v G)
theorem ok_l_comparers (T : Bt mg) (F : Dfn K mg "_law_comparers" s_l_comparers) : Has P w K mg base 1 "_law_comparers" ["_law_wires"] sp_l_comparers := by
  refine F.ok sc_l_comparers (fun _ _ _ _ _ _ us hl => match us, hl with | [_], _ => rfl) (fun vs H Q E h => by obtain ⟨_, _, _, _, ⟨_, rfl, _⟩, _⟩ := h; rfl) (fun f cdv A outer s H vs Q E hr h => ?_)
  obtain ⟨G, M, n, S, ⟨v, rfl, rfl, hn⟩, k⟩ := h
  refine ⟨_, (pss_cons (ps_set (i := 1) sc_l_comparers.nd rfl (Or.inl rfl) (pe_lst pa_nil))
    (pss_cons (ps_for PassesOwn.never rfl (pi_range1 (by rfl) T.range (pa_cons (pv 0) pa_nil)) (pg_name (i := 2) sc_l_comparers.nd rfl (Or.inl rfl))
     (pss_one (ps_for PassesOwn.never rfl (pi_range2 (by rfl) T.range (pa_cons (pe_op op_add (pv 2) pe_int) (pa_cons (pv 0) pa_nil))) (pg_name (i := 3) sc_l_comparers.nd rfl (Or.inl rfl))
      (pss_one (ps_expr (pe_bm PySem.F.plainAttrs_list PySem.F.slot_list_append PySem.F.type_list_append mt_append (pv 1) (pa_cons (pe_tup (pa_cons (pv 2) (pa_cons (pv 3) pa_nil))) pa_nil)))))))
    (pss_one (ps_ret (pv 1))))), ?_⟩
  walk_at "rd"
  refine al_lstM S (by walk_at "gv") (by simp) (fun pl M1 H1 e1 S1 f1 n1 _ => ?_)
  walk_at "rd"
  refine loopR (n := n) (fun i σ G' M' => ∃ x y acc, σ = [some (.int n), some (.ref pl), x, y] ∧ Same G G' ∧ (∀ b, b ≠ pl → M' b = M b) ∧ M' pl = some (.lst acc) ∧ All2 rP G' ((List.range i).flatMap (scI n)) acc) S1 (by walk_at "gv") (by omega)
    ⟨_, _, [], rfl, Same.refl _, e1, f1, All2.nil⟩ (fun i σ G3 M3 H3 hi hI S3 => ?_) (fun σ G3 M3 H3 hI S3 => ?_)
  · obtain ⟨x, y, acc, rfl, E3, e3, f3, al3⟩ := hI
    have hsz : acc.length ≤ 64 := by
      rw [al3.len]
      refine Nat.le_trans (flat_le _ 8 _ fun j _ => ?_) ?_
      · unfold scI
        simp
        omega
      · simp
        omega
    walk_at "rd"
    refine loopR2 (m := i + 1) (n := n) (fun j σ G' M' => ∃ y acc2, σ = [some (.int n), some (.ref pl), some (.int (i : Nat)), y] ∧ Same G3 G' ∧ (∀ b, b ≠ pl → M' b = M b) ∧ M' pl = some (.lst (acc ++ acc2)) ∧ All2 rP G' ((List.range j).map fun (j : Nat) => ((i : Int), ((i + 1 + j : Nat) : Int))) acc2) S3
      (by intro R_ q_; walk_at "rd"; exact q_) (by omega) (by omega) ⟨_, [], rfl, Same.refl _, e3, by simpa using f3, All2.nil⟩ (fun j σ G4 M4 H4 hj hI S4 => ?_) (fun σ G4 M4 H4 hI S4 => ?_)
    · obtain ⟨y, acc2, rfl, E4, e4, f4, al4⟩ := hI
      have hl4 := al4.len
      rw [List.length_map, List.length_range] at hl4
      walk_at "rd"
      refine ⟨ty_lst (S4.m _ _ f4), ?_⟩
      walk_at "rd"
      refine al_tup S4 (by walk_at "gv") (by simp [sizeLine_eq]) (fun p G5 H5 E5 S5 f5 => ?_)
      walk_at "rd"
      refine rd_appM S5 f4 (by rw [List.length_append, hl4, sizeLine_eq]; omega) (fun M6 H6 e6 S6 f6 => ?_)
      refine ⟨_, _, S6, _, acc2 ++ [.ref p], rfl, E4.trans E5, fun b hb => (e6 b hb).trans (e4 b hb), by rw [f6, List.append_assoc], ?_⟩
      rw [List.range_succ, List.map_append]
      exact (al4.up up_P E5).snoc ⟨p, _, _, rfl, f5, rfl, rfl⟩
    · obtain ⟨y, acc2, rfl, E4, e4, f4, al4⟩ := hI
      refine ⟨_, _, S4, _, _, _, rfl, E3.trans E4, e4, f4, ?_⟩
      rw [List.range_succ, List.flatMap_append]
      refine (al3.up up_P E4).append ?_
      simpa [scI] using al4
  · obtain ⟨x, y, acc, rfl, E3, e3, f3, al3⟩ := hI
    obtain ⟨G5, E5, S5, f5⟩ := S3.drop f3 e3 n1
    walk_at "rd"
    exact k _ _ _ (E3.trans E5) S5 ⟨pl, acc, rfl, f5, al3.up up_P E5⟩
def sp_l_named : Sp := pureSp (fun (x : Row × Row) vs G => ∃ v1 v2, vs = [v1, v2] ∧ rTI x.1 v1 G ∧ rTI x.2 v2 G ∧ x.2.length = x.1.length ∧ x.1.length ≤ 4000 ∧ ∀ n ∈ x.2, 0 ≤ n ∧ n < x.1.length)
  (fun x v G => rTI (renamedM x.1 x.2) v G)
theorem ok_l_named (T : Bt mg) (F : Dfn K mg "_law_named" s_l_named) : Has P w K mg base 1 "_law_named" ["_law_row", "_law_names"] sp_l_named := by
  refine F.ok sc_l_named (fun _ _ _ _ _ _ us hl => match us, hl with | [_, _], _ => rfl) (fun vs H Q E h => by obtain ⟨_, _, _, _, ⟨_, _, rfl, _⟩, _⟩ := h; rfl) (fun f cdv A outer s H vs Q E hr h => ?_)
  obtain ⟨G, M, ⟨r, ns⟩, S, ⟨v1, v2, rfl, ⟨a, rfl, ha⟩, ⟨b, rfl, hb⟩, hl, hlen, hin⟩, k⟩ := h
  dsimp only at hl hlen hin ha hb
  refine ⟨_, (pss_cons (ps_set (i := 2) sc_l_named.nd rfl (Or.inl rfl) (pe_callTy (lstO K) (by rfl) T.list (by decide +kernel) (pa_cons (pv 0) pa_nil)))
    (pss_cons (ps_for PassesOwn.never rfl (pi_range1 (by rfl) T.range (pa_cons (pe_callB (lenS K) (by rfl) T.len PySem.boot_len (pa_cons (pv 0) pa_nil)) pa_nil)) (pg_name (i := 3) sc_l_named.nd rfl (Or.inl rfl))
     (pss_one (ps_asg (pe_ix (ixT K) (pv 0) (pv 3) (fun _ _ => rfl)) (pg_sub (pv 2) (pe_ix (ixT K) (pv 1) (pv 3) (fun _ _ => rfl)) set_list))))
    (pss_one (ps_ret (pe_callTy (tupO K) (by rfl) T.tuple (by decide +kernel) (pa_cons (pv 2) pa_nil)))))), ?_⟩
  walk_at "rd"
  refine al_lsTM S (S.g _ _ ha) (fun D M1 H1 e1 S1 f1 n1 n2 => ?_)
  walk_at "rd"
  refine loopR (n := r.length) (fun i σ G' M' => ∃ z, σ = [some (.ref a), some (.ref b), some (.ref D), z] ∧ G' = G ∧ (∀ c, c ≠ D → M' c = M c) ∧ M' D = some (.lst ((renM r ns i).map V.int))) S1 (by intro R_ q_; walk_at "rd"; simpa using q_) (by omega) ⟨_, rfl, rfl, e1, f1⟩ (fun i σ G' M' H' hi hI S' => ?_) (fun σ G' M' H' hI S' => ?_)
  · obtain ⟨z, rfl, rfl, e2, f2⟩ := hI
    have hr1 : (r.map V.int)[i]? = some (.int (r.getD i 0)) := by simp [hi]
    have hn1 : (ns.map V.int)[i]? = some (.int (ns.getD i 0)) := by
      have : i < ns.length := by omega
      simp [this]
    have hin2 := hin (ns.getD i 0) (by
      have : i < ns.length := by omega
      simp [this])
    walk_at "rd"
    refine rd_setM S' f2 (ixN_of (j := (ns.getD i 0).toNat) (by omega) (by rw [List.length_map, renM_len]; omega)) (fun M2 H2 e3 S2 f3 => ?_)
    walk_at "rd"
    refine ⟨_, M2, S2, _, rfl, rfl, fun c hc => (e3 c hc).trans (e2 c hc), ?_⟩
    rw [f3, renM, List.map_set]
  · obtain ⟨z, rfl, rfl, e2, f2⟩ := hI
    walk_at "rd"
    refine al_tpL S' (S'.m _ _ f2) (fun l G1 H2 E1 S2 f3 => ?_)
    obtain ⟨G2, E2, S3, f4⟩ := S2.drop f2 e2 n1
    exact k _ G2 H2 (E1.trans E2) S3 ⟨l, rfl, E2 _ _ f3⟩
def sp_l_passed : Sp := pureSp (fun (x : Row × List Cp) vs G => ∃ v1 v2, vs = [v1, v2] ∧ rTI x.1 v1 G ∧ rT rP x.2 v2 G ∧ ∀ c ∈ x.2, CpIn x.1.length c ∧ c.1 ≠ c.2)
  (fun x v G => rTI (passedM x.1 x.2) v G)
theorem ok_l_passed (T : Bt mg) (F : Dfn K mg "_law_passed" s_l_passed) : Has P w K mg base 1 "_law_passed" ["_law_row", "_law_comparers_here"] sp_l_passed := by
  refine F.ok sc_l_passed (fun _ _ _ _ _ _ us hl => match us, hl with | [_, _], _ => rfl) (fun vs H Q E h => by obtain ⟨_, _, _, _, ⟨_, _, rfl, _⟩, _⟩ := h; rfl) (fun f cdv A outer s H vs Q E hr h => ?_)
  obtain ⟨G, M, ⟨r, cs⟩, S, ⟨v1, v2, rfl, ⟨a, rfl, ha⟩, ⟨b, xs, rfl, hb, al⟩, hin⟩, k⟩ := h
  dsimp only at hin ha
  refine ⟨_, (pss_cons (ps_set (i := 2) sc_l_passed.nd rfl (Or.inl rfl) (pe_callTy (lstO K) (by rfl) T.list (by decide +kernel) (pa_cons (pv 0) pa_nil)))
    (pss_cons (ps_for PassesOwn.never rfl (piT K (pv 1)) (pg_name (i := 3) sc_l_passed.nd rfl (Or.inl rfl))
     (pss_cons (ps_set (i := 4) sc_l_passed.nd rfl (Or.inl rfl) (pe_callB (call_min2 rfl) (by rfl) T.min (by decide +kernel) (pa_cons (pe_ix (ixL K) (pv 2) (pe_ix (ixT K) (pv 3) pe_int (fun _ _ => rfl)) (fun _ _ => rfl)) (pa_cons (pe_ix (ixL K) (pv 2) (pe_ix (ixT K) (pv 3) pe_int (fun _ _ => rfl)) (fun _ _ => rfl)) pa_nil))))
     (pss_cons (ps_asg (pe_callB (call_max2 rfl) (by rfl) T.max (by decide +kernel) (pa_cons (pe_ix (ixL K) (pv 2) (pe_ix (ixT K) (pv 3) pe_int (fun _ _ => rfl)) (fun _ _ => rfl)) (pa_cons (pe_ix (ixL K) (pv 2) (pe_ix (ixT K) (pv 3) pe_int (fun _ _ => rfl)) (fun _ _ => rfl)) pa_nil))) (pg_sub (pv 2) (pe_ix (ixT K) (pv 3) pe_int (fun _ _ => rfl)) set_list))
     (pss_one (ps_asg (pv 4) (pg_sub (pv 2) (pe_ix (ixT K) (pv 3) pe_int (fun _ _ => rfl)) set_list))))))
    (pss_one (ps_ret (pe_callTy (tupO K) (by rfl) T.tuple (by decide +kernel) (pa_cons (pv 2) pa_nil)))))), ?_⟩
  walk_at "rd"
  refine al_lsTM S (S.g _ _ ha) (fun D M1 H1 e1 S1 f1 n1 n2 => ?_)
  walk_at "rd"
  refine loopT xs (fun i σ G' M' => ∃ z1 z2, σ = [some (.ref a), some (.ref b), some (.ref D), z1, z2] ∧ G' = G ∧ (∀ c, c ≠ D → M' c = M c) ∧ M' D = some (.lst ((passedM r (cs.take i)).map V.int))) S1 (by walk_at "gv") ⟨_, _, rfl, rfl, e1, f1⟩ (fun i σ G' M' hI H' S' => ?_) (fun i x σ G' M' H' hx hI S' => ?_) (fun σ G' M' H' hI S' => ?_)
  · obtain ⟨_, _, rfl, rfl, _⟩ := hI
    exact S'.g _ _ hb
  · obtain ⟨z1, z2, rfl, rfl, e2, f2⟩ := hI
    obtain ⟨p, ep, t, x1, y1, rfl, ht, hx1, hy1⟩ := al.at hx
    cases hx1
    cases hy1
    obtain ⟨hin2, hne⟩ := hin p (List.mem_of_getElem? ep)
    have hl := passedM_len (cs.take i) r
    obtain ⟨i1, i2⟩ := at_in (r := passedM r (cs.take i)) (p := p) (by rw [hl]; exact hin2)
    have ecur : passedM r (cs.take (i + 1)) = cmpM (passedM r (cs.take i)) p := by
      rw [take_push ep]
      unfold passedM
      rw [List.foldl_append]
      rfl
    generalize passedM r (cs.take i) = cur at *
    obtain ⟨b1, b2, b3, b4⟩ := hin2
    have hp0 : atI [V.int p.1, V.int p.2] 0 = some (.int p.1) := rfl
    have hp1 : atI [V.int p.1, V.int p.2] 1 = some (.int p.2) := rfl
    walk_at "rd"
    refine ⟨_, _, rfl, ?_⟩
    walk_at "rd"
    refine ⟨_, _, rfl, ?_⟩
    walk_at "rd"
    refine rd_setM S' f2 (ixN_of (j := p.2.toNat) (by omega) (by rw [List.length_map, hl]; omega)) (fun M2 H3 e3 S3 f4 => ?_)
    walk_at "rd"
    refine rd_setM S3 f4 (ixN_of (j := p.1.toNat) (by omega) (by rw [List.length_set, List.length_map, hl]; omega)) (fun M3 H4 e4 S4 f5 => ?_)
    walk_at "rd"
    refine ⟨_, M3, S4, _, _, rfl, rfl, fun c hc => (e4 c hc).trans ((e3 c hc).trans (e2 c hc)), ?_⟩
    rw [f5, ecur]
    unfold cmpM
    rw [← minmax (a := p.1.toNat) (b := p.2.toNat) (by omega) (by omega) (by omega) _ _ rfl rfl, List.map_set, List.map_set]
  · obtain ⟨z1, z2, rfl, rfl, e2, f2⟩ := hI
    rw [al.len, List.take_length] at f2
    walk_at "rd"
    refine al_tpL S' (S'.m _ _ f2) (fun l G1 H2 E2 S2 f3 => ?_)
    obtain ⟨G2, E3, S3, f4⟩ := S2.drop f2 e2 n1
    exact k _ G2 H2 (E2.trans E3) S3 ⟨l, rfl, E3 _ _ f3⟩
end
end N
/-! LD: the law: all names, layers -/
namespace N
open PySem L2
def apart2 (c : Cp) (l : List Cp) : Bool := l.all fun p => !(decide (c.1 ∈ [p.1, p.2]) || decide (c.2 ∈ [p.1, p.2]))
def lyStep (fd : List (List Cp)) (c : Cp) : List (List Cp) := fd ++ (fd.filter (apart2 c ·)).map (· ++ [c])
def lyM (w : Nat) : List (List Cp) := (scM w).foldl lyStep [[]]
theorem lyM_sizes : ∀ n, n ≤ 4 → ∀ i, i ≤ 6 → (((scM n).take i).foldl lyStep [[]]).length ≤ 64 ∧ ∀ l ∈ (((scM n).take i).foldl lyStep [[]]), l.length ≤ 8 := by decide +kernel
theorem lyM_tail : ∀ n, n ≤ 4 → (∀ l ∈ (lyM n).tail, l ≠ [] ∧ ∀ c ∈ l, CpIn n c ∧ c.1 ≠ c.2) ∧ (lyM n).length ≤ 64 := by
  unfold CpIn
  decide +kernel
/-- data of pairs -/
def dP (p : Cp) : PyData := .tuple [.int p.1, .int p.2]
def dPs (l : List Cp) : PyData := .tuple (l.map dP)
theorem alike_dP (p q : Cp) : PySem.W.alike (dP p) (dP q) = true := by simp [dP, PySem.W.alike, PySem.W.alikeAll]
theorem alike_dPs : ∀ l m : List Cp, PySem.W.alikeAll (l.map dP) (m.map dP) = true
  | [], _ => by rw [List.map_nil, PySem.W.alikeAll]
  | _ :: _, [] => by rw [List.map_nil, List.map_cons, PySem.W.alikeAll]
  | p :: l, q :: m => by rw [List.map_cons, List.map_cons, PySem.W.alikeAll, alike_dP, alike_dPs l m]; rfl
theorem depth_dPs : ∀ l : List Cp, PyData.depthAll (l.map dP) ≤ 1
  | [] => by simp [PyData.depthAll]
  | p :: l => by
    have := depth_dPs l
    simp only [List.map_cons, PyData.depthAll, dP, PyData.depth]
    omega
section
variable {K : PySem.W.Frag} {H G M : Hp}
theorem dp_P {p : Cp} {v : V} (S : Hs G M H) (h : rP p v G) : Dp K H v (dP p) := by
  obtain ⟨a, rfl, ha⟩ := rP_ti h
  exact dp_T (S.g _ _ ha)
theorem dp_of {α : Type} {R : α → V → Hp → Prop} {d : α → PyData} (hd : ∀ x v, R x v G → Dp K H v (d x)) : ∀ (xs : List V) (l : List α), All2 R G l xs → DpAll K H xs (l.map d)
  | [], [], _ => .nil
  | [], x :: t, h => absurd h.len (by simp)
  | x :: xs, [], h => absurd h.len (by simp)
  | x :: xs, r :: t, h => .cons (hd r x (h.get 0 r x rfl rfl)) (dp_of hd xs t ⟨by simpa using h.len, fun i y v e1 e2 => h.get (i + 1) y v (by simpa using e1) (by simpa using e2)⟩)
theorem dp_Ps {l : List Cp} {v : V} (S : Hs G M H) (h : rT rP l v G) : Dp K H v (dPs l) := by
  obtain ⟨a, xs, rfl, ha, al⟩ := h
  exact .tup (SqT.of (S.g _ _ ha)) (dp_of (fun x v h => dp_P S h) xs l al)
end
/-- what stands for a permutation -/
theorem All2.perm {α : Type} {R : α → V → Hp → Prop} {G : Hp} {xs out : List V} (p : out.Perm xs) : ∀ l : List α, All2 R G l xs → ∃ l', l'.Perm l ∧ All2 R G l' out := by
  induction p with
  | nil => intro l h; exact ⟨l, .refl _, h⟩
  | cons x _ ih =>
    intro l h
    cases l with
    | nil => exact absurd h.len (by simp)
    | cons r t =>
      obtain ⟨l', p', h'⟩ := ih t ⟨by simpa using h.len, fun i y v e1 e2 => h.get (i + 1) y v (by simpa using e1) (by simpa using e2)⟩
      exact ⟨r :: l', p'.cons r, All2.cons (h.get 0 r x rfl rfl) h'⟩
  | swap x y t =>
    intro l h
    match l, h with
    | [], h => exact absurd h.len (by simp)
    | [_], h => exact absurd h.len (by simp)
    | a :: b :: l, h =>
      exact ⟨b :: a :: l, .swap a b l, All2.cons (h.get 1 b y rfl rfl) (All2.cons (h.get 0 a x rfl rfl) ⟨by simpa using h.len, fun i y v e1 e2 => h.get (i + 2) y v (by simpa using e1) (by simpa using e2)⟩)⟩
  | trans _ _ ih1 ih2 =>
    intro l h
    obtain ⟨l1, p1, h1⟩ := ih2 l h
    obtain ⟨l2, p2, h2⟩ := ih1 l1 h1
    exact ⟨l2, p2.trans p1, h2⟩
section
variable {P : Program} {w : World} {K : PySem.W.Frag} {mg : Str → Option Value} {base : Heap}
def sp_l_all_names : Sp := pureSp (fun (n : Nat) vs _ => ∃ v, vs = [v] ∧ v = .int (n : Int) ∧ n ≤ 4) (fun n v G => rL rTI (namesM n) v G)
theorem ok_l_all_names (T : Bt mg) (F : Dfn K mg "_law_all_names" s_l_all_names) : Has P w K mg base 1 "_law_all_names" ["_law_wires"] sp_l_all_names := by
  refine F.ok sc_l_all_names (fun _ _ _ _ _ _ us hl => match us, hl with | [_], _ => rfl) (fun vs H Q E h => by obtain ⟨_, _, _, _, ⟨_, rfl, _⟩, _⟩ := h; rfl) (fun f cdv A outer s H vs Q E hr h => ?_)
  obtain ⟨G, M, n, S, ⟨v, rfl, rfl, hn⟩, k⟩ := h
  refine ⟨_, (pss_cons (ps_set (i := 1) sc_l_all_names.nd rfl (Or.inl rfl) (pe_lst (pa_cons (pe_tup pa_nil) pa_nil)))
    (pss_cons (ps_for PassesOwn.never rfl (pi_range1 (by rfl) T.range (pa_cons (pv 0) pa_nil)) (pg_name (i := 2) sc_l_all_names.nd rfl (Or.inl rfl))
     (pss_cons (ps_set (i := 3) sc_l_all_names.nd rfl (Or.inl rfl) (pe_lst pa_nil))
     (pss_cons (ps_for PassesOwn.never rfl (piL K (pv 1)) (pg_name (i := 4) sc_l_all_names.nd rfl (Or.inl rfl))
      (pss_one (ps_for PassesOwn.never rfl (pi_range1 (by rfl) T.range (pa_cons (pv 0) pa_nil)) (pg_name (i := 5) sc_l_all_names.nd rfl (Or.inl rfl))
       (pss_one (ps_if (pt_cmpR (notInK K) (pv 5) (pv 4) (by rfl))
        (pss_one (ps_expr (pe_bm PySem.F.plainAttrs_list PySem.F.slot_list_append PySem.F.type_list_append mt_append (pv 3) (pa_cons (pe_op (catA K) (pv 4) (pe_tup (pa_cons (pv 5) pa_nil))) pa_nil))))
        pss_nil)))))
     (pss_one (ps_set (i := 1) sc_l_all_names.nd rfl (Or.inl rfl) (pv 3))))))
    (pss_one (ps_ret (pv 1))))), ?_⟩
  walk_at "rd"
  apply rd_lst
  walk_at "rd"
  refine al_tup S (by walk_at "gv") (by simp) (fun p0 G1 H1 E1 S1 f1 => ?_)
  walk_at "rd"
  refine ⟨by simp [sizeLine_eq], fun p1 hp1 => ?_⟩
  obtain ⟨G2, E2, S2, f2⟩ := S1.addG (o := .lst [.ref p0]) hp1
  walk_at "rd"
  refine loopR (n := n) (fun i σ G' M' => ∃ a x y z u, σ = [some (.int n), some (.ref a), x, y, z, u] ∧ Same G G' ∧ M' = M ∧ rL rTI (nmK n i) (.ref a) G') S2 (by walk_at "gv") (by omega)
    ⟨p1, _, _, _, _, rfl, E1.trans E2, rfl, p1, _, rfl, f2, All2.nil.cons ⟨p0, rfl, E2 _ _ f1⟩⟩ (fun i σ G3 M3 H3 hi hI S3 => ?_) (fun σ G3 M3 H3 hI S3 => ?_)
  · obtain ⟨a, x, y, z, u, rfl, E3, rfl, ⟨a2, xs, ea, fa, al⟩⟩ := hI
    cases ea
    obtain ⟨hc1, hc2⟩ := nmK_sizes n hn i (by omega)
    walk_at "rd"
    refine al_lstM S3 (by walk_at "gv") (by simp) (fun pl M4 H4 e4 S4 f4 n4 _ => ?_)
    walk_at "rd"
    refine loopL xs (fun j σ G' M' => ∃ x z u acc, σ = [some (.int n), some (.ref a), x, some (.ref pl), z, u] ∧ Same G3 G' ∧ (∀ b, b ≠ pl → M' b = M3 b) ∧ M' pl = some (.lst acc) ∧ All2 rTI G' (((nmK n i).take j).flatMap (nmI n)) acc)
      S4 (by walk_at "gv") ⟨_, _, _, [], rfl, Same.refl _, e4, f4, All2.nil⟩ (fun j σ G' M' hI H' S' => ?_) (fun j x3 σ G' M' H' hx3 hI S' => ?_) (fun σ G' M' H' hI S' => ?_)
    · obtain ⟨_, _, _, _, rfl, E', _⟩ := hI
      exact S'.g _ _ (E' _ _ fa)
    · obtain ⟨x, z, u, acc, rfl, E', e', f', al'⟩ := hI
      obtain ⟨ns, er, b, eb, fb⟩ := al.at hx3
      subst eb
      have hns := hc2 ns (List.mem_of_getElem? er)
      have hb' := E' _ _ fb
      have hj : j < (nmK n i).length := (List.getElem?_eq_some_iff.mp er).1
      have hacc : acc.length ≤ 256 := by
        rw [al'.len]
        refine Nat.le_trans (flat_le _ 4 _ fun q _ => Nat.le_trans (nmI_len n q) hn) ?_
        rw [List.length_take]
        omega
      walk_at "rd"
      refine loopR (n := n) (fun m σ G4 M4 => ∃ u acc2, σ = [some (.int n), some (.ref a), x, some (.ref pl), some (.ref b), u] ∧ Same G' G4 ∧ (∀ b, b ≠ pl → M4 b = M3 b) ∧ M4 pl = some (.lst (acc ++ acc2)) ∧
          All2 rTI G4 (((List.range m).filter fun (q : Nat) => !decide (((q : Nat) : Int) ∈ ns)).map fun (q : Nat) => ns ++ [((q : Nat) : Int)]) acc2) S' (by walk_at "gv") (by omega)
        ⟨_, [], rfl, Same.refl _, e', by simpa using f', All2.nil⟩ (fun m σ G4 M4 H4 hm hI S4 => ?_) (fun σ G4 M4 H4 hI S4 => ?_)
      · obtain ⟨u, acc2, rfl, E4, e5, f5, al5⟩ := hI
        have hl5 : acc2.length ≤ m := by
          rw [al5.len, List.length_map]
          refine Nat.le_trans (List.length_filter_le _ _) ?_
          rw [List.length_range]
          exact Nat.le_refl _
        walk_at "rd"
        refine rd_niI (.inl (S4.g _ _ (E4 _ _ hb'))) ?_
        walk_at "rd"
        refine rd_iteNd (fun h0 => ?_) (fun h0 => ?_)
        · walk_at "rd"
          refine ⟨ty_lst (S4.m _ _ f5), ?_⟩
          walk_at "rd"
          refine al_tup S4 (by walk_at "gv") (by simp [sizeLine_eq]) (fun p G5 H5 E5 S5 f6 => ?_)
          refine al_catT S5 (E5 _ _ (E4 _ _ hb')) f6 (by simp [sizeLine_eq, hns]; omega) (fun l G6 H6 E6 S6 f7 => ?_)
          walk_at "rd"
          refine rd_appM S6 f5 (by rw [List.length_append, sizeLine_eq]; omega) (fun M7 H7 e7 S7 f8 => ?_)
          refine ⟨_, _, S7, _, acc2 ++ [.ref l], rfl, (E4.trans E5).trans E6, fun b hb => (e7 b hb).trans (e5 b hb), by rw [f8, List.append_assoc], ?_⟩
          rw [List.range_succ, List.filter_append, List.map_append]
          refine (al5.up up_TI (E5.trans E6)).append ?_
          have e9 : ([m].filter fun (q : Nat) => !decide (((q : Nat) : Int) ∈ ns)) = [m] := by simp [h0]
          rw [e9]
          exact All2.nil.cons ⟨l, rfl, by simpa using f7⟩
        · walk_at "rd"
          refine ⟨_, _, S4, _, acc2, rfl, E4, e5, f5, ?_⟩
          rw [List.range_succ, List.filter_append, List.map_append]
          have e9 : ([m].filter fun (q : Nat) => !decide (((q : Nat) : Int) ∈ ns)) = [] := by simp [h0]
          rw [e9]
          simpa using al5
      · obtain ⟨u, acc2, rfl, E4, e5, f5, al5⟩ := hI
        refine ⟨_, _, S4, _, _, _, _, rfl, E'.trans E4, e5, f5, ?_⟩
        rw [take_push er, List.flatMap_append]
        refine (al'.up up_TI E4).append ?_
        simpa [nmI] using al5
    · obtain ⟨x, z, u, acc, rfl, E', e', f', al'⟩ := hI
      obtain ⟨G5, E5, S5, f5⟩ := S'.drop f' e' n4
      walk_at "rd"
      rw [al.len, List.take_length] at al'
      exact ⟨G5, _, S5, pl, _, _, _, _, rfl, (E3.trans E').trans E5, rfl, pl, acc, rfl, f5, al'.up up_TI E5⟩
  · obtain ⟨a, x, y, z, u, rfl, E3, rfl, hp⟩ := hI
    walk_at "rd"
    exact k _ _ _ E3 S3 hp
def sp_l_apart : Sp := pureSp (fun (x : Cp × List Cp) vs G => ∃ v1 v2, vs = [v1, v2] ∧ rP x.1 v1 G ∧ rT rP x.2 v2 G) (fun x v _ => v = .bl (apart2 x.1 x.2))
theorem ok_l_apart (T : Bt mg) (F : Dfn K mg "_law_apart" s_l_apart) : Has P w K mg base 1 "_law_apart" ["_law_comparer", "_law_layer"] sp_l_apart := by
  refine F.ok sc_l_apart (fun _ _ _ _ _ _ us hl => match us, hl with | [_, _], _ => rfl) (fun vs H Q E h => by obtain ⟨_, _, _, _, ⟨_, _, rfl, _⟩, _⟩ := h; rfl) (fun f cdv A outer s H vs Q E hr h => ?_)
  obtain ⟨G, M, ⟨c, l⟩, S, ⟨v1, v2, rfl, hc, ⟨b, xs, rfl, hb, al⟩⟩, k⟩ := h
  dsimp only at hc al
  obtain ⟨a, rfl, ha⟩ := rP_ti hc
  refine ⟨_, (pss_cons (ps_for PassesOwn.never rfl (piT K (pv 1)) (pg_name (i := 2) sc_l_apart.nd rfl (Or.inl rfl))
     (pss_one (ps_if (PW.pt (pw_or (pt_cmpR (inK K) (pe_ix (ixT K) (pv 0) pe_int (fun _ _ => rfl)) (pv 2) (by rfl)) (pw_or1 (pt_cmpR (inK K) (pe_ix (ixT K) (pv 0) pe_int (fun _ _ => rfl)) (pv 2) (by rfl)))))
      (pss_one (ps_ret pe_bl))
      pss_nil)))
    (pss_one (ps_ret pe_bl))), ?_⟩
  walk_at "rd"
  refine loopT xs (fun i σ G' M' => ∃ z1, σ = [some (.ref a), some (.ref b), z1] ∧ G' = G ∧ M' = M ∧ apart2 c (l.take i) = true) S (by walk_at "gv") ⟨_, rfl, rfl, rfl, rfl⟩ (fun i σ G' M' hI H' S' => ?_) (fun i x σ G' M' H' hx hI S' => ?_) (fun σ G' M' H' hI S' => ?_)
  · obtain ⟨_, rfl, rfl, _⟩ := hI
    exact S'.g _ _ hb
  · obtain ⟨z1, rfl, rfl, rfl, hp⟩ := hI
    obtain ⟨q, eq, hq⟩ := al.at hx
    obtain ⟨t, rfl, ht⟩ := rP_ti hq
    have eM : l = l.take i ++ q :: l.drop (i + 1) := by
      obtain ⟨h3, h4⟩ := List.getElem?_eq_some_iff.mp eq
      rw [← h4, ← List.drop_eq_getElem_cons, List.take_append_drop]
    have hp0 : atI ([c.1, c.2].map V.int) 0 = some (.int c.1) := rfl
    have hp1 : atI ([c.1, c.2].map V.int) 1 = some (.int c.2) := rfl
    walk_at "rd"
    refine rd_inI (.inl (S'.g _ _ ht)) ?_
    walk_at "rd"
    refine rd_ite (fun h0 => ?_) (fun h0 => ?_)
    · refine iteT ?_
      walk_at "rd"
      refine k _ _ _ (Same.refl _) S' ?_
      have : apart2 c l = false := by
        rw [eM]
        unfold apart2
        rw [List.all_append, List.all_cons, decide_eq_true h0]
        simp
      show V.bl false = V.bl (apart2 c l)
      rw [this]
    · walk_at "rd"
      refine rd_inI (.inl (S'.g _ _ ht)) ?_
      walk_at "rd"
      refine rd_ite (fun h1 => ?_) (fun h1 => ?_)
      · walk_at "rd"
        refine k _ _ _ (Same.refl _) S' ?_
        have : apart2 c l = false := by
          rw [eM]
          unfold apart2
          rw [List.all_append, List.all_cons, decide_eq_true h1]
          simp
        show V.bl false = V.bl (apart2 c l)
        rw [this]
      · walk_at "rd"
        refine ⟨_, _, S', _, rfl, rfl, rfl, ?_⟩
        rw [take_push eq]
        unfold apart2 at hp ⊢
        rw [List.all_append, hp, List.all_cons, decide_eq_false h0, decide_eq_false h1]
        rfl
  · obtain ⟨z1, rfl, rfl, rfl, hp⟩ := hI
    rw [al.len, List.take_length] at hp
    walk_at "rd"
    exact k _ _ _ (Same.refl _) S' (show V.bl true = V.bl (apart2 c l) by rw [hp])
end
end N
/-! LE: the law: layers, depth -/
namespace N
open PySem L2
theorem ly_next (n i : Nat) (c : Cp) (h : (scM n)[i]? = some c) : ((scM n).take (i + 1)).foldl lyStep [[]] = lyStep (((scM n).take i).foldl lyStep [[]]) c := by
  rw [take_push h, List.foldl_append]
  rfl
theorem ly_head (cs : List Cp) : ∀ fd : List (List Cp), ∃ t, cs.foldl lyStep ([] :: fd) = [] :: t := by
  induction cs with
  | nil => exact fun fd => ⟨fd, rfl⟩
  | cons c cs ih => exact fun fd => ih (fd ++ _)
def ldStep (st : List Int) (c : Cp) : List Int :=
  let x := st.getD c.1.toNat 0
  let y := st.getD c.2.toNat 0
  (st.set c.1.toNat (1 + if y > x then y else x)).set c.2.toNat (1 + if y > x then y else x)
theorem ldStep_len (st : List Int) (c : Cp) : (ldStep st c).length = st.length := by simp [ldStep]
def ldM (n : Nat) (cs : List Cp) : List Int := cs.foldl ldStep (List.replicate n 0)
theorem ldM_len (n : Nat) (cs : List Cp) : (ldM n cs).length = n := by
  have go : ∀ (cs : List Cp) (st : List Int), (cs.foldl ldStep st).length = st.length := by
    intro cs
    induction cs with
    | nil => intro st; rfl
    | cons c cs ih => intro st; rw [List.foldl_cons, ih, ldStep_len]
  rw [ldM, go, List.length_replicate]
section
variable {P : Program} {w : World} {K : PySem.W.Frag} {mg : Str → Option Value} {base : Heap}
def sp_l_layers : Sp := pureSp (fun (n : Nat) vs _ => ∃ v, vs = [v] ∧ v = .int (n : Int) ∧ n ≤ 4) (fun n v G => ∃ l, l.Perm (lyM n).tail ∧ rL (rT rP) l v G)
theorem ok_l_layers (T : Bt mg) (F : Dfn K mg "_law_layers" s_l_layers) (h_l_comparers : Has P w K mg base 1 "_law_comparers" ["_law_wires"] sp_l_comparers)
    (h_l_apart : Has P w K mg base 1 "_law_apart" ["_law_comparer", "_law_layer"] sp_l_apart) : Has P w K mg base 2 "_law_layers" ["_law_wires"] sp_l_layers := by
  refine F.ok sc_l_layers (fun _ _ _ _ _ _ us hl => match us, hl with | [_], _ => rfl) (fun vs H Q E h => by obtain ⟨_, _, _, _, ⟨_, rfl, _⟩, _⟩ := h; rfl) (fun f cdv A outer s H vs Q E hr h => ?_)
  obtain ⟨G, M, n, S, ⟨v, rfl, rfl, hn⟩, k⟩ := h
  refine ⟨_, (pss_cons (ps_set (i := 1) sc_l_layers.nd rfl (Or.inl rfl) (pe_lst (pa_cons (pe_tup pa_nil) pa_nil)))
    (pss_cons (ps_for PassesOwn.never rfl (piL K (pe_fn h_l_comparers hr (pa_cons (pv 0) pa_nil))) (pg_name (i := 2) sc_l_layers.nd rfl (Or.inr rfl))
     (pss_one (ps_set (i := 1) sc_l_layers.nd rfl (Or.inl rfl) (pe_op op_cat (pv 1) (pe_lc (own := [("_law_layer", 3)]) rfl sc_l_layers.nd (piL K (pv 1)) (blkOk_by (N := ["_law_wires", "_law_found", "_law_comparer", "_law_layer"]) (sc := defScope s_l_layers) (by decide +kernel)) (fun _ _ _ _ _ => (pg_name (i := 3) sc_l_layers.nd rfl (Or.inl rfl))) (fun _ _ _ _ _ => (pts_one (pt_val (pe_fn h_l_apart hr (pa_cons (pv 2) (pa_cons (pv 3) pa_nil)))))) (fun _ _ _ _ _ => (pe_op (catA K) (pv 3) (pe_tup (pa_cons (pv 2) pa_nil)))))))))
    (pss_one (ps_ret (pe_callB (srtD K (hu := hr.units)) (by rfl) T.sorted (by decide +kernel) (pa_cons (pe_slice (slL K) (pv 1) (po_some pe_int) po_none) pa_nil)))))), ?_⟩
  walk_at "rd"
  apply rd_lst
  walk_at "rd"
  refine al_tup S (by walk_at "gv") (by simp) (fun p0 G1 H1 E1 S1 f1 => ?_)
  walk_at "rd"
  refine ⟨by simp [sizeLine_eq], fun p1 hp1 => ?_⟩
  obtain ⟨G2, E2, S2, f2⟩ := S1.addG (o := .lst [.ref p0]) hp1
  walk_at "rd"
  apply rd_fL
  walk_at "rd"
  refine ⟨G2, M, n, S2, ⟨_, rfl, rfl, by omega⟩, fun v G3 H3 E3 S3 ⟨b, xs, eb, hb, al⟩ => ?_⟩
  subst eb
  have hsz := scM_size n hn
  have hxl : xs.length = (scM n).length := al.len
  refine loopL xs (fun i σ G' M' => ∃ a x y, σ = [some (.int n), some (.ref a), x, y] ∧ Same G3 G' ∧ M' = M ∧ rL (rT rP) (((scM n).take i).foldl lyStep [[]]) (.ref a) G') S3 gv_cE
    ⟨p1, _, _, rfl, Same.refl _, rfl, p1, _, rfl, E3 _ _ f2, All2.nil.cons ⟨p0, _, rfl, E3 _ _ (E2 _ _ f1), All2.nil⟩⟩ (fun i σ G' M' hI H' S' => ?_) (fun i x σ G4 M4 H4 hx hI S4 => ?_) (fun σ G4 M4 H4 hI S4 => ?_)
  · obtain ⟨_, _, _, rfl, E', _⟩ := hI
    exact S'.g _ _ (E' _ _ hb)
  · obtain ⟨a, x1, y1, rfl, E4, rfl, ⟨a2, fs, ea, fa, fl⟩⟩ := hI
    cases ea
    obtain ⟨c, ec, hc⟩ := al.at hx
    have hst := ly_next n i c ec
    have hi : i < (scM n).length := (List.getElem?_eq_some_iff.mp ec).1
    have hs := lyM_sizes n hn i (by omega)
    have hs2 := lyM_sizes n hn (i + 1) (by omega)
    rw [hst] at hs2
    generalize hcur : ((scM n).take i).foldl lyStep [[]] = cur at *
    walk_at "rd"
    have e1 : (cur.map fun l => if apart2 c l = true then some (l ++ [c]) else none).filterMap id = (cur.filter (apart2 c ·)).map (· ++ [c]) := by
      clear hs hs2 hcur hst fl
      induction cur with
      | nil => rfl
      | cons l t ih =>
        by_cases h : apart2 c l = true
        · simp [h] at ih ⊢
          exact ih
        · simp [h] at ih ⊢
          exact ih
    refine compL (up_T up_P) (cur.map fun l => if apart2 c l = true then some (l ++ [c]) else none) S4 (by walk_at "gv") fa (by simp [fl.len]) (by simp [sizeLine_eq]; omega) (by intro _; rfl) (fun i1 x2 o G5 M5 H5 hx2 ho E5 S5 Q' kk => ?_) (fun i1 x2 y2 G5 M5 H5 hx2 ho E5 S5 Q' kk => ?_) (fun p acc G5 H5 E5 S5 f5 al5 => ?_)
    · obtain ⟨l, el, hl⟩ := fl.at hx2
      rw [List.getElem?_map, el] at ho
      have eo : (if apart2 c l = true then some (l ++ [c]) else none) = o := by simpa using ho
      subst eo
      walk_at "rd"
      refine ⟨G5, M5, (c, l), S5, ⟨_, _, rfl, up_P _ _ _ _ (E4.trans E5) hc, up_T up_P _ _ _ _ E5 hl⟩, fun v G6 H6 E6 S6 ev => ?_⟩
      dsimp only at ev
      subst ev
      walk_at "rd"
      have := kk G6 H6 E6 S6
      cases h : apart2 c l <;> simpa [h] using this
    · obtain ⟨l, el, hl⟩ := fl.at hx2
      rw [List.getElem?_map, el] at ho
      have eo : (if apart2 c l = true then some (l ++ [c]) else none) = some y2 := by simpa using ho
      by_cases h : apart2 c l = true
      · rw [if_pos h] at eo
        cases eo
        have hll := hs.2 l (List.mem_of_getElem? el)
        obtain ⟨b2, ls, eb2, hb2, hls⟩ := hl
        cases eb2
        walk_at "rd"
        refine al_tup S5 (by walk_at "gv") (by simp [sizeLine_eq]) (fun p1 G6 H6 E6 S6 f6 => ?_)
        refine al_catT S6 (E6 _ _ (E5 _ _ hb2)) f6 (by simp [sizeLine_eq, hls.len]; omega) (fun p2 G7 H7 E7 S7 f7 => ?_)
        exact kk _ G7 H7 (E6.trans E7) S7 ⟨p2, _, rfl, f7, (hls.up up_P ((E5.trans E6).trans E7)).snoc (up_P _ _ _ _ (((E4.trans E5).trans E6).trans E7) hc)⟩
      · rw [if_neg h] at eo
        cases eo
    · rw [e1] at al5
      have hla := al5.len
      have hlb := fl.len
      have h64 := hs2.1
      unfold lyStep at h64
      rw [List.length_append] at h64
      have h65 : fs.length + acc.length ≤ 64 := by rw [hla, hlb]; exact h64
      refine al_cat S5 (S5.g _ _ (E5 _ _ fa)) (S5.g _ _ f5) (by rw [sizeLine_eq]; omega) (fun p2 G6 H6 E6 S6 f6 => ?_)
      walk_at "rd"
      refine ⟨G6, _, S6, p2, _, _, rfl, (E4.trans E5).trans E6, rfl, p2, _, rfl, f6, ?_⟩
      rw [hst]
      exact (fl.up (up_T up_P) (E5.trans E6)).append (al5.up (up_T up_P) E6)
  · obtain ⟨a, x1, y1, rfl, E4, rfl, ⟨a2, fs, ea, fa, fl⟩⟩ := hI
    cases ea
    rw [hxl, List.take_length] at fl
    have fl : All2 (rT rP) G4 (lyM n) fs := fl
    obtain ⟨t, et⟩ : ∃ t, lyM n = [] :: t := ly_head _ []
    obtain ⟨htl, hsl⟩ := lyM_tail n hn
    dsimp only at k
    rw [et] at fl htl hsl k
    dsimp only [List.tail] at htl k
    have hfl := fl.len
    cases fs with
    | nil => cases hfl
    | cons f0 ft =>
    have fl2 : All2 (rT rP) G4 t ft := ⟨by simpa using hfl, fun i y v e1 e2 => fl.get (i + 1) y v (by simpa using e1) (by simpa using e2)⟩
    walk_at "rd"
    refine al_slL S4 (S4.g _ _ fa) (fun p G5 H5 E5 S5 f5 => ?_)
    have ecut : cutV (f0 :: ft) (some 1) none = ft := by
      have h1 : HT.sIx (f0 :: ft).length 0 (some 1) = 1 := by simp [HT.sIx]
      have h2 : HT.sIx (f0 :: ft).length (f0 :: ft).length none = ft.length + 1 := by simp [HT.sIx]
      unfold cutV
      rw [h1, h2]
      simp
    rw [ecut] at f5
    have fl5 := fl2.up (up_T up_P) E5
    walk_at "rd"
    refine ⟨p, ft, t.map dPs, rfl, SqL.of (S5.g _ _ f5), dp_of (fun x v h => dp_Ps S5 h) ft t fl5, ?_, .inl ?_, ?_, fun out q hp hq => ?_⟩
    · intro d hd d' hd'
      obtain ⟨l, _, rfl⟩ := List.mem_map.mp hd
      obtain ⟨l', _, rfl⟩ := List.mem_map.mp hd'
      show PySem.W.alikeAll (l.map dP) (l'.map dP) = true
      exact alike_dPs l l'
    · intro d hd
      obtain ⟨l, hl, rfl⟩ := List.mem_map.mp hd
      obtain ⟨hne, _⟩ := htl l hl
      cases l with
      | nil => exact absurd rfl hne
      | cons c l => exact ⟨_, _, rfl⟩
    · intro d hd
      obtain ⟨l, hl, rfl⟩ := List.mem_map.mp hd
      have := depth_dPs l
      simp only [dPs, PyData.depth]
      omega
    · obtain ⟨l', hp', al'⟩ := All2.perm hp t fl5
      obtain ⟨G6, E6, S6, f6⟩ := S5.addG (o := .lst out) hq
      exact k _ G6 _ ((((E1.trans E2).trans E3).trans (E4.trans E5)).trans E6) S6 ⟨l', hp', q, out, rfl, f6, al'.up (up_T up_P) E6⟩
end
end N
/-! LF: the law: masks, images, hits -/
namespace N
open PySem L2
/-- what was lent to a call comes back -/
theorem Hs.thaw {G G1 G' M H H' : Hp} {f : Addr} {o : HO} (S : Hs G M H) (hm : M f = some o) (E0 : Same G G1) (f1 : G1 f = some o) (E1 : Same G1 G') (S' : Hs G' (del M f) H') :
    ∃ G2, Same G G2 ∧ Hs G2 M H' ∧ ∀ b, b ≠ f → G2 b = G' b := by
  refine ⟨del G' f, fun b u h => ?_, ⟨fun b u h => ?_, fun b u h => ?_, fun b h1 h2 => ?_, fun b u h => ?_⟩, fun b hb => del_ne hb⟩
  · have hb : b ≠ f := fun z => by subst z; rw [S.mg hm] at h; cases h
    rw [del_ne hb]
    exact E1 _ _ (E0 _ _ h)
  · by_cases hb : b = f
    · subst hb; rw [del_same] at h; cases h
    · rw [del_ne hb] at h; exact S'.g _ _ h
  · by_cases hb : b = f
    · subst hb
      rw [hm] at h
      cases h
      exact S'.g _ _ (E1 _ _ f1)
    · exact S'.m _ _ (by rw [del_ne hb]; exact h)
  · have hb : b ≠ f := fun z => by subst z; rw [hm] at h2; cases h2
    rw [del_ne hb] at h1
    exact S'.no _ h1 (by rw [del_ne hb]; exact h2)
  · by_cases hb : b = f
    · subst hb; rw [del_same] at h; cases h
    · rw [del_ne hb] at h
      have := S'.dj _ _ h
      rw [del_ne hb] at this
      exact this
structure Wd where
  rows : List Row
  names : List Row
  nm : List Row
  sm : List Row
def rWd (x : Wd) (v : V) (G : Hp) : Prop := ∃ a v1 v2 v3 v4, v = .ref a ∧ G a = some (.lst [v1, v2, v3, v4]) ∧ rL rTI x.rows v1 G ∧ rL rTI x.names v2 G ∧ rL rLI x.nm v3 G ∧ rL rLI x.sm v4 G
theorem up_Wd : Up rWd := fun _ _ _ _ E ⟨a, v1, v2, v3, v4, e, h, h1, h2, h3, h4⟩ => ⟨a, v1, v2, v3, v4, e, E _ _ h, up_L up_TI _ _ _ _ E h1, up_L up_TI _ _ _ _ E h2, up_L up_LI _ _ _ _ E h3, up_L up_LI _ _ _ _ E h4⟩
def TbOk (n : Nat) (t : Row) : Prop := t.length = n ∧ ∀ c ∈ t, 0 ≤ c ∧ c < n
def tabM (t s : Row) : Row := s.map fun c => t.getD c.toNat 0
structure WdOk (x : Wd) : Prop where
  n16 : x.rows.length ≤ 16
  n2 : 2 ≤ x.rows.length
  nm : ∀ t ∈ x.nm, TbOk x.rows.length t
  sm : ∀ t ∈ x.sm, TbOk x.rows.length t
  nl : x.names.length = x.nm.length
  n0 : x.nm ≠ []
  nz : x.nm.length ≤ 24
  sz : x.sm.length ≤ 9
  names : ∀ ns ∈ x.names, ns ≠ [] ∧ ns.length ≤ 4
  rows : ∀ r ∈ x.rows, r ≠ [] ∧ r.length ≤ 4
  inv : ∀ t ∈ x.nm, ∃ t' ∈ x.nm, ∀ c : Int, 0 ≤ c → c < x.rows.length → t'.getD (t.getD c.toNat 0).toNat 0 = c
def CdOk (n : Nat) (s : Row) : Prop := s ≠ [] ∧ s.length ≤ 16 ∧ ∀ c ∈ s, 0 ≤ c ∧ c < n
theorem tab_at {n : Nat} {t : Row} (h : TbOk n t) {c : Int} (h0 : 0 ≤ c) (h1 : c < n) : atI (t.map V.int) c = some (.int (t.getD c.toNat 0)) := lay_at h0 h1 h.1
theorem tab_in {n : Nat} {t : Row} (h : TbOk n t) {c : Int} (h0 : 0 ≤ c) (h1 : c < n) : 0 ≤ t.getD c.toNat 0 ∧ t.getD c.toNat 0 < n := by
  have hl : c.toNat < t.length := by have := h.1; omega
  refine h.2 _ ?_
  rw [List.getD_eq_getElem?_getD, List.getElem?_eq_getElem hl]
  exact List.getElem_mem hl
theorem tabM_ok {n : Nat} {t s : Row} (h : TbOk n t) (hs : CdOk n s) : CdOk n (tabM t s) := by
  refine ⟨fun z => hs.1 (List.map_eq_nil_iff.mp z), by rw [tabM, List.length_map]; exact hs.2.1, fun c hc => ?_⟩
  obtain ⟨d, hd, rfl⟩ := List.mem_map.mp hc
  obtain ⟨h0, h1⟩ := hs.2.2 d hd
  exact tab_in h h0 h1
def maskM (codes : Row) : Nat := codes.foldl (fun m c => m ||| 2 ^ c.toNat) 0
theorem os_or (a b : Nat) : Builtin.bitOr (a : Int) (b : Int) = ((a ||| b : Nat) : Int) := by
  have hn : ∀ z : Int, Builtin.bitNot (Builtin.bitNot z) = z := fun z => by unfold Builtin.bitNot; omega
  have h1 : ∀ n : Nat, decide (0 ≤ Builtin.bitNot (n : Int)) = false := fun n => decide_eq_false (by unfold Builtin.bitNot; omega)
  unfold Builtin.bitOr Builtin.bitAnd
  rw [h1, h1]
  dsimp only
  rw [hn, hn, hn, Int.toNat_natCast, Int.toNat_natCast]
section
variable {P : Program} {w : World} {K : PySem.W.Frag} {mg : Str → Option Value} {base : Heap}
def sp_l_mask : Sp := pureSp (fun (s : Row) vs G => ∃ v, vs = [v] ∧ rLI s v G ∧ ∀ c ∈ s, 0 ≤ c ∧ c < 64) (fun s v _ => v = .int (maskM s : Nat))
theorem ok_l_mask (T : Bt mg) (F : Dfn K mg "_law_mask" s_l_mask) : Has P w K mg base 1 "_law_mask" ["_law_codes"] sp_l_mask := by
  refine F.ok sc_l_mask (fun _ _ _ _ _ _ us hl => match us, hl with | [_], _ => rfl) (fun vs H Q E h => by obtain ⟨_, _, _, _, ⟨_, rfl, _⟩, _⟩ := h; rfl) (fun f cdv A outer s H vs Q E hr h => ?_)
  obtain ⟨G, M, r, S, ⟨v, rfl, ⟨a, rfl, ha⟩, hin⟩, k⟩ := h
  refine ⟨_, (pss_cons (ps_set (i := 1) sc_l_mask.nd rfl (Or.inl rfl) pe_int)
    (pss_cons (ps_for PassesOwn.never rfl (piL K (pv 0)) (pg_name (i := 2) sc_l_mask.nd rfl (Or.inl rfl))
     (pss_one (ps_set (i := 1) sc_l_mask.nd rfl (Or.inl rfl) (pe_op op_or (pv 1) (pe_op op_shl pe_int (pv 2))))))
    (pss_one (ps_ret (pv 1))))), ?_⟩
  walk_at "rd"
  refine loopL (r.map V.int) (fun i σ G' M' => ∃ z, σ = [some (.ref a), some (.int ((maskM (r.take i) : Nat) : Int)), z] ∧ G' = G ∧ M' = M) S (by walk_at "gv") ⟨_, rfl, rfl, rfl⟩ (fun i σ G' M' hI H' S' => ?_) (fun i x3 σ G' M' H' hx3 hI S' => ?_) (fun σ G' M' H' hI S' => ?_)
  · obtain ⟨_, rfl, rfl, _⟩ := hI
    exact S'.g _ _ ha
  · obtain ⟨z, rfl, rfl, rfl⟩ := hI
    obtain ⟨d, ed, rfl⟩ := int_at hx3
    obtain ⟨d0, d1⟩ := hin d (List.mem_of_getElem? ed)
    walk_at "rd"
    refine ⟨_, _, rfl, rfl, ⟨d0, by omega, by decide⟩, ?_⟩
    walk_at "rd"
    refine ⟨_, _, S', some (.int d), ?_, rfl, rfl⟩
    have e1 : (1 : Int) * 2 ^ d.toNat = ((2 ^ d.toNat : Nat) : Int) := by rw [Int.one_mul]; simp
    rw [e1, os_or, take_push ed]
    unfold maskM
    rw [List.foldl_append]
    rfl
  · obtain ⟨z, rfl, rfl, rfl⟩ := hI
    rw [List.length_map, List.take_length]
    walk_at "rd"
    exact k _ _ _ (Same.refl _) S' rfl
def imM (x : Wd) (s : Row) : List Nat := x.nm.map fun t => maskM (tabM t s)
def rIm (im : List Nat) (v : V) (G : Hp) : Prop := rLI (im.map fun (m : Nat) => ((m : Nat) : Int)) v G
theorem up_Im : Up rIm := fun _ _ _ _ E h => up_LI _ _ _ _ E h
def sp_l_images : Sp := pureSp (fun (x : Row × Wd) vs G => ∃ v1 v2, vs = [v1, v2] ∧ rLI x.1 v1 G ∧ rWd x.2 v2 G ∧ WdOk x.2 ∧ CdOk x.2.rows.length x.1) (fun x v G => rIm (imM x.2 x.1) v G)
theorem ok_l_images (T : Bt mg) (F : Dfn K mg "_law_images" s_l_images) (h_l_mask : Has P w K mg base 1 "_law_mask" ["_law_codes"] sp_l_mask) : Has P w K mg base 2 "_law_images" ["_law_state", "_law_world_here"] sp_l_images := by
  refine F.ok sc_l_images (fun _ _ _ _ _ _ us hl => match us, hl with | [_, _], _ => rfl) (fun vs H Q E h => by obtain ⟨_, _, _, _, ⟨_, _, rfl, _⟩, _⟩ := h; rfl) (fun f cdv A outer s H vs Q E hr h => ?_)
  obtain ⟨G, M, ⟨st, x⟩, S, ⟨v1, v2, rfl, ⟨a, rfl, ha⟩, ⟨wa, w1, w2, w3, w4, rfl, hwa, hw1, hw2, ⟨ta, ts, rfl, hta, tl⟩, hw4⟩, ok, hst⟩, k⟩ := h
  dsimp only at hst ok tl ha k
  refine ⟨_, (pss_cons (ps_set (i := 2) sc_l_images.nd rfl (Or.inl rfl) (pe_lst pa_nil))
    (pss_cons (ps_for PassesOwn.never rfl (piL K (pe_ix (ixL K) (pv 1) pe_int (fun _ _ => rfl))) (pg_name (i := 3) sc_l_images.nd rfl (Or.inr rfl))
     (pss_one (ps_expr (pe_bm PySem.F.plainAttrs_list PySem.F.slot_list_append PySem.F.type_list_append mt_append (pv 2) (pa_cons (pe_fn h_l_mask hr (pa_cons (pe_lc (own := [("_law_code_here", 4)]) rfl sc_l_images.nd (piL K (pv 0)) (blkOk_by (N := ["_law_state", "_law_world_here", "_law_found", "_law_table", "_law_code_here"]) (sc := defScope s_l_images) (by decide +kernel)) (fun _ _ _ _ _ => (pg_name (i := 4) sc_l_images.nd rfl (Or.inl rfl))) (fun _ _ _ _ _ => pts_nil) (fun _ _ _ _ _ => (pe_ix (ixL K) (pv 3) (pv 4) (fun _ _ => rfl)))) pa_nil)) pa_nil)))))
    (pss_one (ps_ret (pv 2))))), ?_⟩
  have hat2 : atI [w1, w2, V.ref ta, w4] 2 = some (.ref ta) := rfl
  walk_at "rd"
  refine al_lstM S (by walk_at "gv") (by simp) (fun pl M1 H1 e1 S1 f1 n1 _ => ?_)
  walk_at "rd"
  refine loopL ts (fun i σ G' M' => ∃ z1 z2 acc, σ = [some (.ref a), some (.ref wa), some (.ref pl), z1, z2] ∧ Same G G' ∧ (∀ b, b ≠ pl → M' b = M b) ∧ M' pl = some (.lst (acc.map fun (m : Nat) => V.int ((m : Nat) : Int))) ∧ acc = (x.nm.take i).map fun t => maskM (tabM t st)) S1 (by walk_at "gv")
    ⟨_, _, [], rfl, Same.refl _, e1, f1, rfl⟩ (fun i σ G' M' hI H' S' => ?_) (fun i x3 σ G' M' H' hx3 hI S' => ?_) (fun σ G' M' H' hI S' => ?_)
  · obtain ⟨_, _, _, rfl, E', _⟩ := hI
    exact S'.g _ _ (E' _ _ hta)
  · obtain ⟨z1, z2, acc, rfl, E', e', f', hacc⟩ := hI
    obtain ⟨t, et, tb, rfl, htb⟩ := tl.at hx3
    have htok := ok.nm t (List.mem_of_getElem? et)
    have hi : i < x.nm.length := (List.getElem?_eq_some_iff.mp et).1
    have hnz := ok.nz
    have hal : acc.length ≤ 24 := by rw [hacc, List.length_map, List.length_take]; omega
    walk_at "rd"
    refine ⟨ty_lst (S'.m _ _ f'), ?_⟩
    walk_at "rd"
    refine compL up_Z ((tabM t st).map some) S' (by walk_at "gv") (E' _ _ ha) (by simp [tabM]) (by simp [tabM, sizeLine_eq]; have := hst.2.1; omega) (by intro _; rfl) yes_all (fun i1 x1 y1 G4 M4 H4 hx1 ho E4 S4 Q' kk => ?_) (fun p acc2 G4 H4 E4 S4 e al2 => ?_)
    · have ey := some_at ho
      obtain ⟨c, ec, rfl⟩ := int_at hx1
      unfold tabM at ey
      rw [List.getElem?_map, ec] at ey
      cases ey
      obtain ⟨c0, c1⟩ := hst.2.2 c (List.mem_of_getElem? ec)
      have hat := tab_at htok c0 c1
      have htb4 := E4 _ _ (E' _ _ htb)
      walk_at "rd"
      exact kk _ G4 H4 (Same.refl _) S4 rfl
    · rw [filt_some] at al2
      have ea := al2.ints
      subst ea
      walk_at "rd"
      refine ⟨G4, M', tabM t st, S4, ⟨_, rfl, ⟨p, rfl, e⟩, fun c hc => ?_⟩, fun v G5 H5 E5 S5 hv => ?_⟩
      · have h1 := (tabM_ok htok hst).2.2 c hc
        have h2 := ok.n16
        omega
      · subst hv
        walk_at "rd"
        refine rd_appM S5 f' (by rw [List.length_map, sizeLine_eq]; omega) (fun M6 H6 e6 S6 f6 => ?_)
        refine ⟨_, _, S6, _, _, acc ++ [maskM (tabM t st)], rfl, (E'.trans E4).trans E5, fun b hb => (e6 b hb).trans (e' b hb), by rw [f6, List.map_append]; rfl, ?_⟩
        rw [take_push et, List.map_append, hacc]
        rfl
  · obtain ⟨z1, z2, acc, rfl, E', e', f', hacc⟩ := hI
    rw [tl.len, List.take_length] at hacc
    obtain ⟨G5, E5, S5, f5⟩ := S'.drop f' e' n1
    walk_at "rd"
    refine k _ G5 H' (E'.trans E5) S5 ⟨pl, rfl, ?_⟩
    rw [f5, hacc]
    unfold imM
    rw [List.map_map, List.map_map, List.map_map]
    rfl
end
end N
/-! LG: the law: hits, wanted, unsettled -/
namespace N
open PySem L2
theorem os_and (a b : Nat) : Builtin.bitAnd (a : Int) (b : Int) = ((a &&& b : Nat) : Int) := by
  have h1 : ∀ n : Nat, decide (0 ≤ (n : Int)) = true := fun n => decide_eq_true (by omega)
  unfold Builtin.bitAnd
  rw [h1, h1]
  dsimp only
  rw [Int.toNat_natCast, Int.toNat_natCast]
def HitAt (ims : List (List Nat)) (m i k : Nat) : Prop := ∃ im x, ims[i]? = some im ∧ im[k]? = some x ∧ x &&& m = x
structure HitsOk (ims : List (List Nat)) (m : Nat) (hs : List Cp) : Prop where
  el : ∀ p ∈ hs, ∃ i k : Nat, p = ((i : Int), (k : Int)) ∧ HitAt ims m i k
  al : ∀ i k, HitAt ims m i k → hs ≠ []
  sz : hs.length ≤ 1680000
section
variable {P : Program} {w : World} {K : PySem.W.Frag} {mg : Str → Option Value} {base : Heap}
def sp_l_hits : Sp := pureSp (fun (x : List (List Nat) × Row) vs G => ∃ v1 v2, vs = [v1, v2] ∧ rL rIm x.1 v1 G ∧ rLI x.2 v2 G ∧ x.1.length ≤ 70000 ∧ (∀ im ∈ x.1, im.length ≤ 24) ∧ ∀ c ∈ x.2, 0 ≤ c ∧ c < 64)
  (fun x v G => ∃ hs, rL rP hs v G ∧ HitsOk x.1 (maskM x.2) hs)
theorem ok_l_hits (T : Bt mg) (F : Dfn K mg "_law_hits" s_l_hits) (h_l_mask : Has P w K mg base 1 "_law_mask" ["_law_codes"] sp_l_mask) : Has P w K mg base 2 "_law_hits" ["_law_images_here", "_law_led"] sp_l_hits := by
  refine F.ok sc_l_hits (fun _ _ _ _ _ _ us hl => match us, hl with | [_, _], _ => rfl) (fun vs H Q E h => by obtain ⟨_, _, _, _, ⟨_, _, rfl, _⟩, _⟩ := h; rfl) (fun f cdv A outer s H vs Q E hr h => ?_)
  obtain ⟨G, M, ⟨ims, led⟩, S, ⟨v1, v2, rfl, ⟨a, xs, rfl, ha, al⟩, ⟨b, rfl, hb⟩, hz, hz2, hin⟩, k⟩ := h
  dsimp only at al hb hz hz2 hin k
  refine ⟨_, (pss_cons (ps_set (i := 2) sc_l_hits.nd rfl (Or.inl rfl) (pe_fn h_l_mask hr (pa_cons (pv 1) pa_nil)))
    (pss_cons (ps_set (i := 3) sc_l_hits.nd rfl (Or.inl rfl) (pe_lst pa_nil))
    (pss_cons (ps_for PassesOwn.never rfl (pi_range1 (by rfl) T.range (pa_cons (pe_callB (lenS K) (by rfl) T.len PySem.boot_len (pa_cons (pv 0) pa_nil)) pa_nil)) (pg_name (i := 4) sc_l_hits.nd rfl (Or.inl rfl))
     (pss_one (ps_for PassesOwn.never rfl (pi_range1 (by rfl) T.range (pa_cons (pe_callB (lenS K) (by rfl) T.len PySem.boot_len (pa_cons (pe_ix (ixL K) (pv 0) (pv 4) (fun _ _ => rfl)) pa_nil)) pa_nil)) (pg_name (i := 5) sc_l_hits.nd rfl (Or.inl rfl))
      (pss_one (ps_if (pt_cmpR op_eq (pe_op op_and (pe_ix (ixL K) (pe_ix (ixL K) (pv 0) (pv 4) (fun _ _ => rfl)) (pv 5) (fun _ _ => rfl)) (pv 2)) (pe_ix (ixL K) (pe_ix (ixL K) (pv 0) (pv 4) (fun _ _ => rfl)) (pv 5) (fun _ _ => rfl)) (nomark _))
       (pss_one (ps_expr (pe_bm PySem.F.plainAttrs_list PySem.F.slot_list_append PySem.F.type_list_append mt_append (pv 3) (pa_cons (pe_tup (pa_cons (pv 4) (pa_cons (pv 5) pa_nil))) pa_nil))))
       pss_nil)))))
    (pss_one (ps_ret (pv 3)))))), ?_⟩
  walk_at "rd"
  refine ⟨G, M, led, S, ⟨_, rfl, ⟨b, rfl, hb⟩, hin⟩, fun v G1 H1 E1 S1 hv => ?_⟩
  subst hv
  generalize maskM led = m at *
  walk_at "rd"
  refine al_lstM S1 (by walk_at "gv") (by simp) (fun pl M1 H2 e1 S2 f1 n1 _ => ?_)
  have hxl : xs.length = ims.length := al.len
  walk_at "rd"
  refine loopR (n := ims.length) (fun i σ G' M' => ∃ z1 z2 acc hs, σ = [some (.ref a), some (.ref b), some (.int (m : Int)), some (.ref pl), z1, z2] ∧ Same G1 G' ∧ (∀ b, b ≠ pl → M' b = M b) ∧ M' pl = some (.lst acc) ∧ All2 rP G' hs acc ∧ hs.length ≤ 24 * i ∧
      (∀ p ∈ hs, ∃ i k : Nat, p = ((i : Int), (k : Int)) ∧ HitAt ims m i k) ∧ ∀ i' k', i' < i → HitAt ims m i' k' → hs ≠ []) S2 (by intro R_ q_; walk_at "rd"; simpa [hxl] using q_) (by omega)
    ⟨_, _, [], [], rfl, Same.refl _, e1, f1, All2.nil, Nat.zero_le _, (fun p hp => by cases hp), fun i' k' h => absurd h (Nat.not_lt_zero _)⟩ (fun i σ G3 M3 H3 hi hI S3 => ?_) (fun σ G3 M3 H3 hI S3 => ?_)
  · obtain ⟨z1, z2, acc, hs, rfl, E3, e3, f3, al3, hl3, hel, hal⟩ := hI
    have hix : i < xs.length := by omega
    have hx : xs[i]? = some xs[i] := List.getElem?_eq_getElem hix
    obtain ⟨im, eim, q, eq, hq⟩ := al.at hx
    rw [eq] at hx
    have himl := hz2 im (List.mem_of_getElem? eim)
    have hq3 := E3 _ _ (E1 _ _ hq)
    have ha3 := E3 _ _ (E1 _ _ ha)
    walk_at "rd"
    refine loopR (n := im.length) (fun j σ G' M' => ∃ z2 acc2 hs2, σ = [some (.ref a), some (.ref b), some (.int (m : Int)), some (.ref pl), some (.int ((i : Nat) : Int)), z2] ∧ Same G3 G' ∧ (∀ b, b ≠ pl → M' b = M b) ∧ M' pl = some (.lst acc2) ∧ All2 rP G' hs2 acc2 ∧ hs2.length ≤ 24 * i + j ∧
      (∀ p ∈ hs2, ∃ i k : Nat, p = ((i : Int), (k : Int)) ∧ HitAt ims m i k) ∧ ∀ i' k', (i' < i ∨ i' = i ∧ k' < j) → HitAt ims m i' k' → hs2 ≠ []) S3 (by intro R_ q_; walk_at "rd"; simpa using q_) (by omega)
      ⟨_, acc, hs, rfl, Same.refl _, e3, f3, al3, by omega, hel, fun i' k' h => hal i' k' (by omega)⟩ (fun j σ G4 M4 H4 hj hI S4 => ?_) (fun σ G4 M4 H4 hI S4 => ?_)
    · obtain ⟨z2, acc2, hs2, rfl, E4, e4, f4, al4, hl4, hel4, hal4⟩ := hI
      have hk : im[j]? = some im[j] := List.getElem?_eq_getElem hj
      obtain ⟨x, ex⟩ : ∃ x, x = im[j] := ⟨_, rfl⟩
      rw [← ex] at hk
      have hk2 : ((im.map fun (m : Nat) => ((m : Nat) : Int)).map V.int)[j]? = some (.int (x : Int)) := by
        rw [List.getElem?_map, List.getElem?_map, hk]
        rfl
      have hq4 := E4 _ _ hq3
      have ha4 := E4 _ _ ha3
      have hl4' := al4.len
      walk_at "rd"
      rw [os_and]
      refine rd_ite (fun h0 => ?_) (fun h0 => ?_)
      · walk_at "rd"
        refine ⟨ty_lst (S4.m _ _ f4), ?_⟩
        walk_at "rd"
        refine al_tup S4 (by walk_at "gv") (by simp [sizeLine_eq]) (fun p G5 H5 E5 S5 f5 => ?_)
        walk_at "rd"
        refine rd_appM S5 f4 (by rw [sizeLine_eq]; omega) (fun M6 H6 e6 S6 f6 => ?_)
        have h0' : x &&& m = x := by omega
        refine ⟨_, _, S6, _, acc2 ++ [.ref p], hs2 ++ [((i : Int), (j : Int))], rfl, E4.trans E5, fun b hb => (e6 b hb).trans (e4 b hb), f6, (al4.up up_P E5).snoc ⟨p, _, _, rfl, f5, rfl, rfl⟩, by rw [List.length_append]; simp; omega, ?_, fun _ _ _ _ => by simp⟩
        intro p hp
        rcases List.mem_append.mp hp with hp | hp
        · exact hel4 p hp
        · exact ⟨i, j, List.mem_singleton.mp hp, im, x, eim, hk, h0'⟩
      · walk_at "rd"
        refine ⟨_, _, S4, _, acc2, hs2, rfl, E4, e4, f4, al4, by omega, hel4, fun i' k' h hh => ?_⟩
        by_cases hc : i' < i ∨ i' = i ∧ k' < j
        · exact hal4 i' k' hc hh
        · have h1 : i' = i := by omega
          have h2 : k' = j := by omega
          subst h1
          subst h2
          obtain ⟨im2, x2, g1, g2, g3⟩ := hh
          rw [eim] at g1
          cases g1
          rw [hk] at g2
          cases g2
          exact absurd (by rw [g3]) h0
    · obtain ⟨z2, acc2, hs2, rfl, E4, e4, f4, al4, hl4, hel4, hal4⟩ := hI
      refine ⟨_, _, S4, _, _, acc2, hs2, rfl, E3.trans E4, e4, f4, al4, by omega, hel4, fun i' k' h hh => ?_⟩
      by_cases hc : i' < i
      · exact hal4 i' k' (.inl hc) hh
      · have h1 : i' = i := by omega
        subst h1
        obtain ⟨im2, x2, g1, g2, g3⟩ := id hh
        rw [eim] at g1
        cases g1
        exact hal4 i' k' (.inr ⟨rfl, (List.getElem?_eq_some_iff.mp g2).1⟩) hh
  · obtain ⟨z1, z2, acc, hs, rfl, E3, e3, f3, al3, hl3, hel, hal⟩ := hI
    obtain ⟨G5, E5, S5, f5⟩ := S3.drop f3 e3 n1
    walk_at "rd"
    refine k _ _ _ ((E1.trans E3).trans E5) S5 ⟨hs, ⟨pl, acc, rfl, f5, al3.up up_P E5⟩, hel, fun i' k' hh => hal i' k' ?_ hh, by omega⟩
    obtain ⟨im2, x2, g1, g2, g3⟩ := hh
    exact (List.getElem?_eq_some_iff.mp g1).1
/-- a state of codes is unsettled: two of its rows have the same sum -/
def sumsM (x : Wd) (s : Row) : List Int := s.map fun c => (x.rows.getD c.toNat []).sum
def unsM (x : Wd) (s : Row) : Prop := ∃ c ∈ sumsM x s, 1 < (sumsM x s).count c
def sp_l_unsettled : Sp := pureSp (fun (x : Row × Wd) vs G => ∃ v1 v2, vs = [v1, v2] ∧ rLI x.1 v1 G ∧ rL rTI x.2.rows v2 G ∧ CdOk x.2.rows.length x.1) (fun x v _ => ∃ b, v = .bl b ∧ (b = true ↔ unsM x.2 x.1))
theorem ok_l_unsettled (T : Bt mg) (F : Dfn K mg "_law_unsettled" s_l_unsettled) : Has P w K mg base 1 "_law_unsettled" ["_law_state", "_law_rows_here"] sp_l_unsettled := by
  refine F.ok sc_l_unsettled (fun _ _ _ _ _ _ us hl => match us, hl with | [_, _], _ => rfl) (fun vs H Q E h => by obtain ⟨_, _, _, _, ⟨_, _, rfl, _⟩, _⟩ := h; rfl) (fun f cdv A outer s H vs Q E hr h => ?_)
  obtain ⟨G, M, ⟨st, x⟩, S, ⟨v1, v2, rfl, ⟨a, rfl, ha⟩, ⟨b, xs, rfl, hb, al⟩, hst⟩, k⟩ := h
  dsimp only at ha al hst k
  refine ⟨_, (pss_cons (ps_setLc (i := 2) (own := [("_law_code_here", 3)]) rfl sc_l_unsettled.nd rfl rfl (sw_true rfl rfl rfl (by decide +kernel)) (piL K (pv 0)) (blkOk_by (N := ["_law_state", "_law_rows_here", "_law_sums", "_law_code_here", "_law_one"]) (sc := defScope s_l_unsettled) (by decide +kernel)) (fun _ _ _ _ _ => (pg_name (i := 3) sc_l_unsettled.nd rfl (Or.inl rfl))) (fun _ _ _ _ _ => pts_nil) (fun _ _ _ _ _ => (pe_callB (sumTK K (hc := rfl)) (by rfl) T.sum (by decide +kernel) (pa_cons (pe_ix (ixL K) (pv 1) (pv 3) (fun _ _ => rfl)) pa_nil))))
    (pss_cons (ps_for PassesOwn.never rfl (piL K (pv 2)) (pg_name (i := 4) sc_l_unsettled.nd rfl (Or.inl rfl))
     (pss_one (ps_if (pt_cmpR op_gt (pe_bm PySem.F.plainAttrs_list PySem.F.slot_list_count PySem.F.type_list_count (cntK K) (pv 2) (pa_cons (pv 4) pa_nil)) pe_int (nomark _))
      (pss_one (ps_ret pe_bl))
      pss_nil)))
    (pss_one (ps_ret pe_bl)))), ?_⟩
  walk_at "rd"
  refine compL up_Z ((sumsM x st).map some) S (by walk_at "gv") ha (by simp [sumsM]) (by simp [sumsM, sizeLine_eq]; have := hst.2.1; omega) (by intro _; rfl) yes_all (fun i1 x1 y1 G4 M4 H4 hx1 ho E4 S4 Q' kk => ?_) (fun p acc2 G4 H4 E4 S4 e al2 => ?_)
  · have ey := some_at ho
    obtain ⟨c, ec, rfl⟩ := int_at hx1
    unfold sumsM at ey
    rw [List.getElem?_map, ec] at ey
    cases ey
    obtain ⟨c0, c1⟩ := hst.2.2 c (List.mem_of_getElem? ec)
    obtain ⟨r, v, er, hat, q, eq, hq⟩ := at_rel al c0 (by rw [al.len]; exact c1)
    subst eq
    have e3 : x.rows.getD c.toNat [] = r := by rw [List.getD_eq_getElem?_getD, er]; rfl
    have hq4 := E4 _ _ hq
    have hb4 := E4 _ _ hb
    walk_at "rd"
    refine rd_sumT (S4.g _ _ hq4) ?_
    refine kk _ G4 H4 (Same.refl _) S4 ?_
    show V.int r.sum = V.int (x.rows.getD c.toNat []).sum
    rw [e3]
  · rw [filt_some] at al2
    have ea := al2.ints
    subst ea
    walk_at "rd"
    refine loopL ((sumsM x st).map V.int) (fun i σ G' M' => ∃ z, σ = [some (.ref a), some (.ref b), some (.ref p), none, z] ∧ G' = G4 ∧ M' = M ∧ ∀ c ∈ (sumsM x st).take i, (sumsM x st).count c ≤ 1) S4 (by walk_at "gv") ⟨_, rfl, rfl, rfl, fun c hc => by simp at hc⟩ (fun i σ G' M' hI H' S' => ?_) (fun i x3 σ G' M' H' hx3 hI S' => ?_) (fun σ G' M' H' hI S' => ?_)
    · obtain ⟨_, rfl, rfl, _⟩ := hI
      exact S'.g _ _ e
    · obtain ⟨z, rfl, rfl, rfl, hp⟩ := hI
      obtain ⟨c, ec, rfl⟩ := int_at hx3
      walk_at "rd"
      refine ⟨ty_lst (S'.g _ _ e), ?_⟩
      walk_at "rd"
      refine rd_cnt (S'.g _ _ e) ?_
      walk_at "rd"
      refine rd_ite (fun h0 => ?_) (fun h0 => ?_)
      · walk_at "rd"
        exact k _ _ _ E4 S' ⟨true, rfl, fun _ => ⟨c, List.mem_of_getElem? ec, by omega⟩, fun _ => rfl⟩
      · walk_at "rd"
        refine ⟨_, _, S', _, rfl, rfl, rfl, fun c' hc' => ?_⟩
        rw [take_push ec] at hc'
        rcases List.mem_append.mp hc' with hc' | hc'
        · exact hp c' hc'
        · have := List.mem_singleton.mp hc'
          subst this
          omega
    · obtain ⟨z, rfl, rfl, rfl, hp⟩ := hI
      rw [List.length_map, List.take_length] at hp
      walk_at "rd"
      refine k _ _ _ E4 S' ⟨false, rfl, nofun, fun ⟨c, hc, h2⟩ => ?_⟩
      have := hp c hc
      omega
end
end N
/-! LH: the law: wanted, depth -/
namespace N
open PySem L2
def Asc (l s : Row) : Prop := l.Pairwise (· < ·) ∧ ∀ c, c ∈ l ↔ c ∈ s
theorem asc_len : ∀ (l : Row) (a b : Int), l.Pairwise (· < ·) → (∀ c ∈ l, a ≤ c ∧ c < b) → l.length ≤ (b - a).toNat
  | [], _, _, _, _ => Nat.zero_le _
  | x :: l, a, b, h, hb => by
    obtain ⟨h1, h2⟩ := List.pairwise_cons.mp h
    obtain ⟨q1, q2⟩ := hb x (List.mem_cons_self ..)
    have := asc_len l (x + 1) b h2 fun c hc => ⟨by have := h1 c hc; omega, (hb c (List.mem_cons_of_mem _ hc)).2⟩
    rw [List.length_cons]
    omega
theorem asc_ok {n : Nat} {l s : Row} (h : Asc l s) (hs : CdOk n s) (hn : n ≤ 16) : CdOk n l := by
  have hin : ∀ c ∈ l, 0 ≤ c ∧ c < n := fun c hc => hs.2.2 c ((h.2 c).mp hc)
  refine ⟨fun z => hs.1 (List.eq_nil_iff_forall_not_mem.mpr fun c hc => ?_), ?_, hin⟩
  · have := (h.2 c).mpr hc
    rw [z] at this
    cases this
  · have := asc_len l 0 n h.1 hin
    omega
structure WantOk (x : Wd) (ss ws : List Row) : Prop where
  el : ∀ w ∈ ws, ∃ s ∈ ss, ∃ t ∈ x.sm, Asc w (tabM t s)
  al : ∀ s ∈ ss, ∀ t ∈ x.sm, ∃ w ∈ ws, Asc w (tabM t s)
  sz : ws.length = x.sm.length * ss.length
theorem set_new {w : World} {G M H : Hp} {p : Addr} {f : Int → Bool} {c : Nat} (S : Hs G M H) (h : H p = none) : ∃ G1, Same G G1 ∧ Hs G1 M (upd H p (SetO w p f c)) ∧ G1 p = some (SetO w p f c) := S.addG h
section
variable {P : Program} {w : World} {K : PySem.W.Frag} {mg : Str → Option Value} {base : Heap}
def sp_l_wanted : Sp := pureSp (fun (x : List Row × Wd) vs G => ∃ v1 v2, vs = [v1, v2] ∧ rL rLI x.1 v1 G ∧ rWd x.2 v2 G ∧ WdOk x.2 ∧ (∀ s ∈ x.1, CdOk x.2.rows.length s) ∧ x.1.length ≤ 70000)
  (fun x v G => ∃ ws, rL rLI ws v G ∧ WantOk x.2 x.1 ws)
theorem ok_l_wanted (T : Bt mg) (F : Dfn K mg "_law_wanted" s_l_wanted) : Has P w K mg base 1 "_law_wanted" ["_law_states", "_law_world_here"] (sp_l_wanted) := by
  refine F.ok sc_l_wanted (fun _ _ _ _ _ _ us hl => match us, hl with | [_, _], _ => rfl) (fun vs H Q E h => by obtain ⟨_, _, _, _, ⟨_, _, rfl, _⟩, _⟩ := h; rfl) (fun f cdv A outer s H vs Q E hr h => ?_)
  obtain ⟨G, M, ⟨ss, x⟩, S, ⟨v1, v2, rfl, ⟨a, xs, rfl, ha, al⟩, ⟨wa, w1, w2, w3, w4, rfl, hwa, hw1, hw2, hw3, ⟨ta, ts, rfl, hta, tl⟩⟩, ok, hst, hsz⟩, k⟩ := h
  dsimp only at hst ok tl ha hsz k al
  refine ⟨_, (pss_cons (ps_set (i := 2) sc_l_wanted.nd rfl (Or.inl rfl) (pe_lst pa_nil))
    (pss_cons (ps_for PassesOwn.never rfl (piL K (pv 0)) (pg_name (i := 3) sc_l_wanted.nd rfl (Or.inl rfl))
     (pss_one (ps_for PassesOwn.never rfl (piL K (pe_ix (ixL K) (pv 1) pe_int (fun _ _ => rfl))) (pg_name (i := 4) sc_l_wanted.nd rfl (Or.inr rfl))
      (pss_one (ps_expr (pe_bm PySem.F.plainAttrs_list PySem.F.slot_list_append PySem.F.type_list_append mt_append (pv 2) (pa_cons (pe_callB (srtS w (hc := rfl)) (by rfl) T.sorted (by decide +kernel) (pa_cons (pe_callTy (setL K (w := w) (hc := rfl)) (by rfl) T.set (by decide +kernel) (pa_cons (pe_lc (own := [("_law_code_here", 5)]) rfl sc_l_wanted.nd (piL K (pv 3)) (blkOk_by (N := ["_law_states", "_law_world_here", "_law_found", "_law_state", "_law_table", "_law_code_here"]) (sc := defScope s_l_wanted) (by decide +kernel)) (fun _ _ _ _ _ => (pg_name (i := 5) sc_l_wanted.nd rfl (Or.inl rfl))) (fun _ _ _ _ _ => pts_nil) (fun _ _ _ _ _ => (pe_ix (ixL K) (pv 4) (pv 5) (fun _ _ => rfl)))) pa_nil)) pa_nil)) pa_nil)))))))
    (pss_one (ps_ret (pv 2))))), ?_⟩
  have hat3 : atI [w1, w2, w3, V.ref ta] 3 = some (.ref ta) := rfl
  have hsm := ok.sz
  walk_at "rd"
  refine al_lstM S (by walk_at "gv") (by simp) (fun pl M1 H1 e1 S1 f1 n1 _ => ?_)
  walk_at "rd"
  refine loopL xs (fun i σ G' M' => ∃ z1 z2 z3 acc ws, σ = [some (.ref a), some (.ref wa), some (.ref pl), z1, z2, z3] ∧ Same G G' ∧ (∀ b, b ≠ pl → M' b = M b) ∧ M' pl = some (.lst acc) ∧ All2 rLI G' ws acc ∧ WantOk x (ss.take i) ws) S1 (by walk_at "gv")
    ⟨_, _, _, [], [], rfl, Same.refl _, e1, f1, All2.nil, ⟨(fun w hw => by cases hw), (fun s hs => by simp at hs), by simp⟩⟩ (fun i σ G' M' hI H' S' => ?_) (fun i x3 σ G' M' H' hx3 hI S' => ?_) (fun σ G' M' H' hI S' => ?_)
  · obtain ⟨_, _, _, _, _, rfl, E', _⟩ := hI
    exact S'.g _ _ (E' _ _ ha)
  · obtain ⟨z1, z2, z3, acc, ws, rfl, E', e', f', al', wk⟩ := hI
    obtain ⟨s0, es, sb, rfl, hsb⟩ := al.at hx3
    have hs0 := hst s0 (List.mem_of_getElem? es)
    have hi : i < ss.length := (List.getElem?_eq_some_iff.mp es).1
    have hwl := wk.sz
    rw [List.length_take] at hwl
    have hwz : ws.length ≤ 9 * 70000 := by
      rw [hwl]
      exact Nat.mul_le_mul hsm (by omega)
    walk_at "rd"
    refine loopL ts (fun j σ G4 M4 => ∃ z2 z3 acc2 us, σ = [some (.ref a), some (.ref wa), some (.ref pl), some (.ref sb), z2, z3] ∧ Same G' G4 ∧ (∀ b, b ≠ pl → M4 b = M b) ∧ M4 pl = some (.lst acc2) ∧ All2 rLI G4 (ws ++ us) acc2 ∧ us.length = j ∧
        ∀ (q : Nat) (t : Row), q < j → x.sm[q]? = some t → ∃ u, us[q]? = some u ∧ Asc u (tabM t s0)) S' (by walk_at "gv")
      ⟨_, _, acc, [], rfl, Same.refl _, e', f', by simpa using al', rfl, fun q t h => absurd h (Nat.not_lt_zero _)⟩ (fun j σ G4 M4 hI H4 S4 => ?_) (fun j x4 σ G4 M4 H4 hx4 hI S4 => ?_) (fun σ G4 M4 H4 hI S4 => ?_)
    · obtain ⟨_, _, _, _, rfl, E4, _⟩ := hI
      exact S4.g _ _ (E4 _ _ (E' _ _ hta))
    · obtain ⟨z2, z3, acc2, us, rfl, E4, e4, f4, al4, hul, hus⟩ := hI
      obtain ⟨t, et, tb, rfl, htb⟩ := tl.at hx4
      have htok := ok.sm t (List.mem_of_getElem? et)
      have hj : j < x.sm.length := (List.getElem?_eq_some_iff.mp et).1
      have hal4 := al4.len
      rw [List.length_append] at hal4
      walk_at "rd"
      refine ⟨ty_lst (S4.m _ _ f4), ?_⟩
      walk_at "rd"
      refine compL up_Z ((tabM t s0).map some) S4 (by walk_at "gv") (E4 _ _ (E' _ _ hsb)) (by simp [tabM]) (by simp [tabM, sizeLine_eq]; have := hs0.2.1; omega) (by intro _; rfl) yes_all (fun i1 x1 y1 G5 M5 H5 hx1 ho E5 S5 Q' kk => ?_) (fun p acc3 G5 H5 E5 S5 e al2 => ?_)
      · have ey := some_at ho
        obtain ⟨c, ec, rfl⟩ := int_at hx1
        unfold tabM at ey
        rw [List.getElem?_map, ec] at ey
        cases ey
        obtain ⟨c0, c1⟩ := hs0.2.2 c (List.mem_of_getElem? ec)
        have hat := tab_at htok c0 c1
        have htb4 := E5 _ _ (E4 _ _ (E' _ _ htb))
        walk_at "rd"
        exact kk _ G5 H5 (Same.refl _) S5 rfl
      · rw [filt_some] at al2
        have ea := al2.ints
        subst ea
        have hl16 := (tabM_ok htok hs0).2.1
        walk_at "rd"
        refine ⟨p, tabM t s0, rfl, SqL.of (S5.g _ _ e), by omega, fun q c hc hq => ?_⟩
        obtain ⟨G6, E6, S6, f6⟩ := set_new (w := w) (f := fun j => decide (j ∈ tabM t s0)) (c := c) S5 hq
        walk_at "rd"
        refine ⟨q, _, c, rfl, S6.g _ _ f6, by omega, fun u r hu hm hl hr0 => ?_⟩
        obtain ⟨G7, E7, S7, f7⟩ := S6.addG (o := .lst (u.map V.int)) hr0
        walk_at "rd"
        refine rd_appM S7 f4 (by rw [sizeLine_eq]; omega) (fun M8 H8 e8 S8 f8 => ?_)
        have E57 := (E5.trans E6).trans E7
        refine ⟨_, _, S8, _, _, acc2 ++ [.ref r], us ++ [u], rfl, E4.trans E57, fun b hb => (e8 b hb).trans (e4 b hb), f8, ?_, by rw [List.length_append, hul]; rfl, fun q t' hq ht' => ?_⟩
        · rw [← List.append_assoc]
          exact (al4.up up_LI E57).snoc ⟨r, rfl, f7⟩
        · by_cases hqj : q < j
          · obtain ⟨u', hu', ha'⟩ := hus q t' hqj ht'
            exact ⟨u', by rw [List.getElem?_append_left (by omega)]; exact hu', ha'⟩
          · have hq2 : q = j := by omega
            subst hq2
            rw [et] at ht'
            cases ht'
            exact ⟨u, by rw [List.getElem?_append_right (by omega), hul, Nat.sub_self]; rfl, hu, fun c => by rw [hm c]; exact decide_eq_true_iff⟩
    · obtain ⟨z2, z3, acc2, us, rfl, E4, e4, f4, al4, hul, hus⟩ := hI
      have htl := tl.len
      rw [htl] at hul hus
      refine ⟨_, _, S4, _, _, _, acc2, ws ++ us, rfl, E'.trans E4, e4, f4, al4, ⟨fun w hw => ?_, fun s hs t ht => ?_, ?_⟩⟩
      · rw [take_push es]
        rcases List.mem_append.mp hw with hw | hw
        · obtain ⟨s, hs, t, ht, h⟩ := wk.el w hw
          exact ⟨s, List.mem_append_left _ hs, t, ht, h⟩
        · obtain ⟨q, hq⟩ := List.getElem?_of_mem hw
          have hql : q < x.sm.length := by
            have := (List.getElem?_eq_some_iff.mp hq).1
            omega
          obtain ⟨u, hu, ha'⟩ := hus q _ hql (List.getElem?_eq_getElem hql)
          rw [hq] at hu
          cases hu
          exact ⟨s0, List.mem_append_right _ (List.mem_singleton_self _), _, List.getElem_mem hql, ha'⟩
      · rw [take_push es] at hs
        rcases List.mem_append.mp hs with hs | hs
        · obtain ⟨w, hw, h⟩ := wk.al s hs t ht
          exact ⟨w, List.mem_append_left _ hw, h⟩
        · have := List.mem_singleton.mp hs
          subst this
          obtain ⟨q, hq⟩ := List.getElem?_of_mem ht
          obtain ⟨u, hu, ha'⟩ := hus q t (List.getElem?_eq_some_iff.mp hq).1 hq
          exact ⟨u, List.mem_append_right _ (List.mem_of_getElem? hu), ha'⟩
      · rw [take_push es, List.length_append, List.length_append, wk.sz, hul, Nat.mul_add, List.length_singleton, Nat.mul_one]
  · obtain ⟨z1, z2, z3, acc, ws, rfl, E', e', f', al', wk⟩ := hI
    rw [al.len, List.take_length] at wk
    obtain ⟨G5, E5, S5, f5⟩ := S'.drop f' e' n1
    walk_at "rd"
    exact k _ G5 H' (E'.trans E5) S5 ⟨ws, ⟨pl, acc, rfl, f5, al'.up up_LI E5⟩, wk⟩
def sp_l_depth : Sp := pureSp (fun (x : Nat × List Cp) vs G => ∃ v1 v2, vs = [v1, v2] ∧ v1 = .int (x.1 : Int) ∧ rL rP x.2 v2 G ∧ 1 ≤ x.1 ∧ x.1 ≤ 8 ∧ ∀ c ∈ x.2, CpIn x.1 c) (fun _ v _ => ∃ i : Int, v = .int i)
end
end N
/-! LI: the law: the world, the sorter -/
namespace N
open PySem L2
theorem names_in : ∀ n, n ≤ 4 → ∀ ns ∈ namesM n, ns.length = n ∧ ∀ v ∈ ns, 0 ≤ v ∧ v < n := by decide +kernel
def nmT (n : Nat) (ns : Row) : Row := (plainM n).map fun r => codeM (renamedM r ns)
def smT (n : Nat) (st : List Cp) : Row := (plainM n).map fun r => codeM (passedM r st)
def wdM (n : Nat) (sts : List (List Cp)) : Wd := ⟨plainM n, namesM n, (namesM n).map (nmT n), sts.map (smT n)⟩
def newSp {α : Type} (pre : α → List V → Hp → Prop) (post : α → List V → Hp → Prop) : Sp := fun vs H Q _ => ∃ (G M : Hp) (x : α), Hs G M H ∧ pre x vs G ∧
  ∀ p xs G' M' H', Same G G' → (∀ b, b ≠ p → M' b = M b) → M p = none → Hs G' M' H' → M' p = some (.lst xs) → post x xs G' → Q (.ref p) H'
section
variable {P : Program} {w : World} {K : PySem.W.Frag} {mg : Str → Option Value} {base : Heap}
def sp_l_world : Sp := pureSp (fun (x : Nat × List (List Cp)) vs G => ∃ v1 v2, vs = [v1, v2] ∧ v1 = .int (x.1 : Int) ∧ rL (rT rP) x.2 v2 G ∧ x.1 ≤ 4 ∧ (∀ st ∈ x.2, ∀ c ∈ st, CpIn x.1 c ∧ c.1 ≠ c.2) ∧ x.2.length ≤ 64) (fun x v G => rWd (wdM x.1 x.2) v G)
theorem ok_l_world (T : Bt mg) (F : Dfn K mg "_law_world" s_l_world) (h_l_rows : Has P w K mg base 1 "_law_rows" ["_law_wires"] sp_l_rows) (h_l_all_names : Has P w K mg base 1 "_law_all_names" ["_law_wires"] sp_l_all_names)
    (h_l_code : Has P w K mg base 1 "_law_code" ["_law_row"] sp_l_code) (h_l_named : Has P w K mg base 1 "_law_named" ["_law_row", "_law_names"] sp_l_named) (h_l_passed : Has P w K mg base 1 "_law_passed" ["_law_row", "_law_comparers_here"] sp_l_passed) :
    Has P w K mg base 2 "_law_world" ["_law_wires", "_law_steps"] sp_l_world := by
  refine F.ok sc_l_world (fun _ _ _ _ _ _ us hl => match us, hl with | [_, _], _ => rfl) (fun vs H Q E h => by obtain ⟨_, _, _, _, ⟨_, _, rfl, _⟩, _⟩ := h; rfl) (fun f cdv A outer s H vs Q E hr h => ?_)
  obtain ⟨G, M, ⟨n, sts⟩, S, ⟨v1, v2, rfl, rfl, ⟨a, xs, rfl, ha, al⟩, hn, hst, hsz⟩, k⟩ := h
  dsimp only at hn hst hsz k al
  have hpl := plainM_len n
  have hle : 2 ^ n ≤ 2 ^ 8 := Nat.pow_le_pow_right (by decide) (by omega)
  have hnz := (nmK_sizes n hn n hn).1
  have hnz : (namesM n).length ≤ 64 := hnz
  refine ⟨_, (pss_cons (ps_set (i := 2) sc_l_world.nd rfl (Or.inl rfl) (pe_fn h_l_rows hr (pa_cons (pv 0) pa_nil)))
    (pss_cons (ps_set (i := 3) sc_l_world.nd rfl (Or.inl rfl) (pe_fn h_l_all_names hr (pa_cons (pv 0) pa_nil)))
    (pss_cons (ps_set (i := 4) sc_l_world.nd rfl (Or.inl rfl) (pe_lst pa_nil))
    (pss_cons (ps_for PassesOwn.never rfl (piL K (pv 3)) (pg_name (i := 5) sc_l_world.nd rfl (Or.inr rfl))
     (pss_one (ps_expr (pe_bm PySem.F.plainAttrs_list PySem.F.slot_list_append PySem.F.type_list_append mt_append (pv 4) (pa_cons (pe_lc (own := [("_law_row", 6)]) rfl sc_l_world.nd (piL K (pv 2)) (blkOk_by (N := ["_law_wires", "_law_steps", "_law_rows_here", "_law_names", "_law_name_maps", "_law_one", "_law_row", "_law_step_maps", "_law_step"]) (sc := defScope s_l_world) (by decide +kernel)) (fun _ _ _ _ _ => (pg_name (i := 6) sc_l_world.nd rfl (Or.inl rfl))) (fun _ _ _ _ _ => pts_nil) (fun _ _ _ _ _ => (pe_fn h_l_code hr (pa_cons (pe_fn h_l_named hr (pa_cons (pv 6) (pa_cons (pv 5) pa_nil))) pa_nil)))) pa_nil)))))
    (pss_cons (ps_set (i := 7) sc_l_world.nd rfl (Or.inl rfl) (pe_lst pa_nil))
    (pss_cons (ps_for PassesOwn.never rfl (piL K (pv 1)) (pg_name (i := 8) sc_l_world.nd rfl (Or.inr rfl))
     (pss_one (ps_expr (pe_bm PySem.F.plainAttrs_list PySem.F.slot_list_append PySem.F.type_list_append mt_append (pv 7) (pa_cons (pe_lc (own := [("_law_row", 6)]) rfl sc_l_world.nd (piL K (pv 2)) (blkOk_by (N := ["_law_wires", "_law_steps", "_law_rows_here", "_law_names", "_law_name_maps", "_law_one", "_law_row", "_law_step_maps", "_law_step"]) (sc := defScope s_l_world) (by decide +kernel)) (fun _ _ _ _ _ => (pg_name (i := 6) sc_l_world.nd rfl (Or.inl rfl))) (fun _ _ _ _ _ => pts_nil) (fun _ _ _ _ _ => (pe_fn h_l_code hr (pa_cons (pe_fn h_l_passed hr (pa_cons (pv 6) (pa_cons (pv 8) pa_nil))) pa_nil)))) pa_nil)))))
    (pss_one (ps_ret (pe_lst (pa_cons (pv 2) (pa_cons (pv 3) (pa_cons (pv 4) (pa_cons (pv 7) pa_nil))))))))))))), ?_⟩
  walk_at "rd"
  refine ⟨G, M, n, S, ⟨_, rfl, rfl, by omega⟩, fun v G1 H1 E1 S1 ⟨rb, rs, ev, hrb, rl⟩ => ?_⟩
  cases ev
  walk_at "rd"
  refine ⟨G1, M, n, S1, ⟨_, rfl, rfl, hn⟩, fun v G2 H2 E2 S2 ⟨nb, ns, ev, hnb, nl⟩ => ?_⟩
  cases ev
  walk_at "rd"
  refine al_lstM S2 (by walk_at "gv") (by simp) (fun pn M3 H3 e3 S3 f3 n3 _ => ?_)
  walk_at "rd"
  refine loopL ns (fun i σ G' M' => ∃ z1 z2 z3 z4 acc, σ = [some (.int n), some (.ref a), some (.ref rb), some (.ref nb), some (.ref pn), z1, z2, z3, z4] ∧ Same G2 G' ∧ (∀ b, b ≠ pn → M' b = M b) ∧ M' pn = some (.lst acc) ∧ All2 rLI G' (((namesM n).take i).map (nmT n)) acc) S3 (by walk_at "gv")
    ⟨_, _, _, _, [], rfl, Same.refl _, e3, f3, All2.nil⟩ (fun i σ G' M' hI H' S' => ?_) (fun i x3 σ G' M' H' hx3 hI S' => ?_) (fun σ G' M' H' hI S' => ?_)
  · obtain ⟨_, _, _, _, _, rfl, E', _⟩ := hI
    exact S'.g _ _ (E' _ _ hnb)
  · obtain ⟨z1, z2, z3, z4, acc, rfl, E', e', f', al'⟩ := hI
    obtain ⟨nm, en, hnm⟩ := nl.at hx3
    obtain ⟨hnl, hnin⟩ := names_in n hn nm (List.mem_of_getElem? en)
    have hi : i < (namesM n).length := (List.getElem?_eq_some_iff.mp en).1
    have hal := al'.len
    rw [List.length_map, List.length_take] at hal
    walk_at "rd"
    refine ⟨ty_lst (S'.m _ _ f'), ?_⟩
    walk_at "rd"
    refine compL up_Z ((nmT n nm).map some) S' (by walk_at "gv") (E' _ _ (E2 _ _ hrb)) (by simp [nmT, rl.len]) (by simp [nmT, sizeLine_eq]; omega) (by intro _; rfl) yes_all (fun i1 x1 y1 G5 M5 H5 hx1 ho E5 S5 Q' kk => ?_) (fun p acc3 G5 H5 E5 S5 e al2 => ?_)
    · have ey := some_at ho
      obtain ⟨r, er, hr1⟩ := rl.at hx1
      unfold nmT at ey
      rw [List.getElem?_map, er] at ey
      cases ey
      have hrl := plainM_row n r (List.mem_of_getElem? er)
      walk_at "rd"
      refine ⟨G5, M5, (r, nm), S5, ⟨_, _, rfl, up_TI _ _ _ _ ((E2.trans E').trans E5) hr1, up_TI _ _ _ _ (E'.trans E5) hnm, by dsimp only; omega, by dsimp only; omega, fun v hv => by dsimp only; rw [hrl]; exact hnin v hv⟩, fun v G6 H6 E6 S6 hv => ?_⟩
      walk_at "rd"
      refine ⟨G6, M5, renamedM r nm, S6, ⟨_, rfl, hv⟩, fun v G7 H7 E7 S7 hv7 => ?_⟩
      exact kk _ G7 H7 (E6.trans E7) S7 hv7
    · rw [filt_some] at al2
      have ea := al2.ints
      subst ea
      walk_at "rd"
      refine rd_appM S5 f' (by rw [sizeLine_eq]; omega) (fun M8 H8 e8 S8 f8 => ?_)
      refine ⟨_, _, S8, _, _, _, _, acc ++ [.ref p], rfl, E'.trans E5, fun b hb => (e8 b hb).trans (e' b hb), f8, ?_⟩
      rw [take_push en, List.map_append]
      exact (al'.up up_LI E5).snoc ⟨p, rfl, e⟩
  obtain ⟨z1, z2, z3, z4, acc, rfl, E', e', f', al'⟩ := hI
  rw [nl.len, List.take_length] at al'
  obtain ⟨G4, E4, S4, f4⟩ := S'.drop f' e' n3
  have alN := al'.up up_LI E4
  clear S' al' f' e' M' S3 f3 e3 M3
  walk_at "rd"
  refine al_lstM S4 (by walk_at "gv") (by simp) (fun ps M3 H3 e3 S3 f3 n3 _ => ?_)
  walk_at "rd"
  have Ea := ((E1.trans E2).trans E').trans E4
  have Er := (E2.trans E').trans E4
  refine loopL xs (fun i σ G' M' => ∃ z1 z2 z4 acc, σ = [some (.int n), some (.ref a), some (.ref rb), some (.ref nb), some (.ref pn), z1, z2, some (.ref ps), z4] ∧ Same G4 G' ∧ (∀ b, b ≠ ps → M' b = M b) ∧ M' ps = some (.lst acc) ∧ All2 rLI G' ((sts.take i).map (smT n)) acc) S3 (by walk_at "gv")
    ⟨_, _, _, [], rfl, Same.refl _, e3, f3, All2.nil⟩ (fun i σ G' M' hI H' S' => ?_) (fun i x3 σ G' M' H' hx3 hI S' => ?_) (fun σ G' M' H' hI S' => ?_)
  · obtain ⟨_, _, _, _, rfl, E', _⟩ := hI
    exact S'.g _ _ (E' _ _ (Ea _ _ ha))
  · obtain ⟨z1, z2, z4, acc, rfl, E', e', f', al'⟩ := hI
    obtain ⟨st, en, hnm⟩ := al.at hx3
    have hin := hst st (List.mem_of_getElem? en)
    have hi : i < sts.length := (List.getElem?_eq_some_iff.mp en).1
    have hal := al'.len
    rw [List.length_map, List.length_take] at hal
    walk_at "rd"
    refine ⟨ty_lst (S'.m _ _ f'), ?_⟩
    walk_at "rd"
    refine compL up_Z ((smT n st).map some) S' (by walk_at "gv") (E' _ _ (Er _ _ hrb)) (by simp [smT, rl.len]) (by simp [smT, sizeLine_eq]; omega) (by intro _; rfl) yes_all (fun i1 x1 y1 G5 M5 H5 hx1 ho E5 S5 Q' kk => ?_) (fun p acc3 G5 H5 E5 S5 e al2 => ?_)
    · have ey := some_at ho
      obtain ⟨r, er, hr1⟩ := rl.at hx1
      unfold smT at ey
      rw [List.getElem?_map, er] at ey
      cases ey
      have hrl := plainM_row n r (List.mem_of_getElem? er)
      walk_at "rd"
      refine ⟨G5, M5, (r, st), S5, ⟨_, _, rfl, up_TI _ _ _ _ ((Er.trans E').trans E5) hr1, up_T up_P _ _ _ _ ((Ea.trans E').trans E5) hnm, fun v hv => by dsimp only; rw [hrl]; exact hin v hv⟩, fun v G6 H6 E6 S6 hv => ?_⟩
      walk_at "rd"
      refine ⟨G6, M5, passedM r st, S6, ⟨_, rfl, hv⟩, fun v G7 H7 E7 S7 hv7 => ?_⟩
      exact kk _ G7 H7 (E6.trans E7) S7 hv7
    · rw [filt_some] at al2
      have ea := al2.ints
      subst ea
      walk_at "rd"
      refine rd_appM S5 f' (by rw [sizeLine_eq]; omega) (fun M8 H8 e8 S8 f8 => ?_)
      refine ⟨_, _, S8, _, _, _, acc ++ [.ref p], rfl, E'.trans E5, fun b hb => (e8 b hb).trans (e' b hb), f8, ?_⟩
      rw [take_push en, List.map_append]
      exact (al'.up up_LI E5).snoc ⟨p, rfl, e⟩
  obtain ⟨z1, z2, z4, acc2, rfl, E5, e', f', al'⟩ := hI
  rw [al.len, List.take_length] at al'
  obtain ⟨G6, E6, S6, f6⟩ := S'.drop f' e' n3
  walk_at "rd"
  refine al_lst S6 (by walk_at "gv") (by simp [sizeLine_eq]) (fun p G7 H7 E7 S7 f7 => ?_)
  have E57 := (E5.trans E6).trans E7
  refine k _ G7 H7 (Ea.trans E57) S7 ⟨p, _, _, _, _, rfl, f7, ⟨rb, rs, rfl, E57 _ _ (Er _ _ hrb), rl.up up_TI (Er.trans E57)⟩, ⟨nb, ns, rfl, E57 _ _ ((E'.trans E4) _ _ hnb), nl.up up_TI ((E'.trans E4).trans E57)⟩,
    ⟨pn, acc, rfl, E57 _ _ f4, alN.up up_LI E57⟩, ⟨ps, acc2, rfl, E7 _ _ f6, al'.up up_LI (E6.trans E7)⟩⟩
end
end N
/-! LJ: the law: the sorter -/
namespace N
open PySem L2
def srtL : Nat → List Cp
  | 2 => [(0, 1)]
  | 3 => [(0, 1), (1, 2), (0, 1)]
  | 4 => [(0, 1), (2, 3), (0, 2), (1, 3), (1, 2)]
  | _ => []
theorem srtL_in : ∀ n, n ≤ 4 → (srtL n).length ≤ 5 ∧ ∀ c ∈ srtL n, CpIn n c := by
  unfold CpIn
  decide +kernel
theorem in_getD {l : List Int} {n : Nat} (h : ∀ v ∈ l, 0 ≤ v ∧ v < n) {k : Nat} (hk : k < l.length) : 0 ≤ l.getD k 0 ∧ l.getD k 0 < n := by
  refine h _ ?_
  rw [List.getD_eq_getElem?_getD, List.getElem?_eq_getElem hk]
  exact List.getElem_mem hk
theorem in_set {l : List Int} {n : Nat} (h : ∀ v ∈ l, 0 ≤ v ∧ v < n) {k : Nat} {x : Int} (hx : 0 ≤ x ∧ x < n) : ∀ v ∈ l.set k x, 0 ≤ v ∧ v < n := fun v hv => by
  rcases List.mem_or_eq_of_mem_set hv with h1 | h1
  · exact h v h1
  · rw [h1]; exact hx
section
variable {P : Program} {w : World} {K : PySem.W.Frag} {mg : Str → Option Value} {base : Heap}
def sp_l_sorter : Sp := newSp (fun (x : Nat × Row) vs G => ∃ v1 v2, vs = [v1, v2] ∧ v1 = .int (x.1 : Int) ∧ rTI x.2 v2 G ∧ 1 ≤ x.1 ∧ x.1 ≤ 4 ∧ x.2.length = x.1 ∧ ∀ v ∈ x.2, 0 ≤ v ∧ v < x.1)
  (fun x xs G => ∃ cs, All2 rP G cs xs ∧ cs.length = (srtL x.1).length ∧ ∀ c ∈ cs, CpIn x.1 c)
theorem ok_l_sorter (T : Bt mg) (F : Dfn K mg "_law_sorter" s_l_sorter) : Has P w K mg base 1 "_law_sorter" ["_law_wires", "_law_names"] sp_l_sorter := by
  refine F.ok sc_l_sorter (fun _ _ _ _ _ _ us hl => match us, hl with | [_, _], _ => rfl) (fun vs H Q E h => by obtain ⟨_, _, _, _, ⟨_, _, rfl, _⟩, _⟩ := h; rfl) (fun f cdv A outer s H vs Q E hr h => ?_)
  obtain ⟨G, M, ⟨n, nm⟩, S, ⟨v1, v2, rfl, rfl, ⟨b, rfl, hb⟩, hn1, hn, hnl, hin⟩, k⟩ := h
  dsimp only at hn1 hn hnl hin k hb
  refine ⟨_, (pss_cons (ps_set (i := 2) sc_l_sorter.nd rfl (Or.inl rfl) (pe_ix (ixL K) (pe_lst (pa_cons (pe_lst pa_nil) (pa_cons (pe_lst pa_nil) (pa_cons (pe_lst (pa_cons (pe_tup (pa_cons pe_int (pa_cons pe_int pa_nil))) pa_nil)) (pa_cons (pe_lst (pa_cons (pe_tup (pa_cons pe_int (pa_cons pe_int pa_nil))) (pa_cons (pe_tup (pa_cons pe_int (pa_cons pe_int pa_nil))) (pa_cons (pe_tup (pa_cons pe_int (pa_cons pe_int pa_nil))) pa_nil)))) (pa_cons (pe_lst (pa_cons (pe_tup (pa_cons pe_int (pa_cons pe_int pa_nil))) (pa_cons (pe_tup (pa_cons pe_int (pa_cons pe_int pa_nil))) (pa_cons (pe_tup (pa_cons pe_int (pa_cons pe_int pa_nil))) (pa_cons (pe_tup (pa_cons pe_int (pa_cons pe_int pa_nil))) (pa_cons (pe_tup (pa_cons pe_int (pa_cons pe_int pa_nil))) pa_nil)))))) pa_nil)))))) (pv 0) (fun _ _ => rfl)))
    (pss_cons (ps_set (i := 3) sc_l_sorter.nd rfl (Or.inl rfl) (pe_callTy (lstO K) (by rfl) T.list (by decide +kernel) (pa_cons (pv 1) pa_nil)))
    (pss_cons (ps_set (i := 4) sc_l_sorter.nd rfl (Or.inl rfl) (pe_lst pa_nil))
    (pss_cons (ps_for PassesOwn.never rfl (piL K (pv 2)) (pg_name (i := 5) sc_l_sorter.nd rfl (Or.inl rfl))
     (pss_cons (ps_set (i := 6) sc_l_sorter.nd rfl (Or.inl rfl) (pe_callB (call_min2 rfl) (by rfl) T.min (by decide +kernel) (pa_cons (pe_ix (ixL K) (pv 3) (pe_ix (ixT K) (pv 5) pe_int (fun _ _ => rfl)) (fun _ _ => rfl)) (pa_cons (pe_ix (ixL K) (pv 3) (pe_ix (ixT K) (pv 5) pe_int (fun _ _ => rfl)) (fun _ _ => rfl)) pa_nil))))
     (pss_cons (ps_set (i := 7) sc_l_sorter.nd rfl (Or.inl rfl) (pe_callB (call_max2 rfl) (by rfl) T.max (by decide +kernel) (pa_cons (pe_ix (ixL K) (pv 3) (pe_ix (ixT K) (pv 5) pe_int (fun _ _ => rfl)) (fun _ _ => rfl)) (pa_cons (pe_ix (ixL K) (pv 3) (pe_ix (ixT K) (pv 5) pe_int (fun _ _ => rfl)) (fun _ _ => rfl)) pa_nil))))
     (pss_cons (ps_expr (pe_bm PySem.F.plainAttrs_list PySem.F.slot_list_append PySem.F.type_list_append mt_append (pv 4) (pa_cons (pe_tup (pa_cons (pv 6) (pa_cons (pv 7) pa_nil))) pa_nil)))
     (pss_cons (ps_asg (pv 6) (pg_sub (pv 3) (pe_ix (ixT K) (pv 5) pe_int (fun _ _ => rfl)) set_list))
     (pss_one (ps_asg (pv 7) (pg_sub (pv 3) (pe_ix (ixT K) (pv 5) pe_int (fun _ _ => rfl)) set_list))))))))
    (pss_one (ps_ret (pv 4))))))), ?_⟩
  walk_at "rd"
  apply rd_lst
  walk_at "rd"
  refine al_lst S (by walk_at "gv") (by simp) (fun p0 G1 H1 E1 S1 f1 => ?_)
  walk_at "rd"
  refine al_lst S1 (by walk_at "gv") (by simp) (fun p1 G2 H2 E2 S2 f2 => ?_)
  walk_at "rd"
  apply rd_lst
  walk_at "rd"
  refine al_tup S2 (by walk_at "gv") (by simp [sizeLine_eq]) (fun t3 G3 H3 E3 S3 f3 => ?_)
  walk_at "rd"
  refine ⟨by simp [sizeLine_eq], fun p2 hp2 => ?_⟩
  obtain ⟨G4, E4, S4, f4⟩ := S3.addG (o := .lst [.ref t3]) hp2
  walk_at "rd"
  apply rd_lst
  walk_at "rd"
  refine al_tup S4 (by walk_at "gv") (by simp [sizeLine_eq]) (fun t5 G5 H5 E5 S5 f5 => ?_)
  walk_at "rd"
  refine al_tup S5 (by walk_at "gv") (by simp [sizeLine_eq]) (fun t6 G6 H6 E6 S6 f6 => ?_)
  walk_at "rd"
  refine al_tup S6 (by walk_at "gv") (by simp [sizeLine_eq]) (fun t7 G7 H7 E7 S7 f7 => ?_)
  walk_at "rd"
  refine ⟨by simp [sizeLine_eq], fun p3 hp3 => ?_⟩
  obtain ⟨G8, E8, S8, f8⟩ := S7.addG (o := .lst [.ref t5, .ref t6, .ref t7]) hp3
  walk_at "rd"
  apply rd_lst
  walk_at "rd"
  refine al_tup S8 (by walk_at "gv") (by simp [sizeLine_eq]) (fun t9 G9 H9 E9 S9 f9 => ?_)
  walk_at "rd"
  refine al_tup S9 (by walk_at "gv") (by simp [sizeLine_eq]) (fun t10 G10 H10 E10 S10 f10 => ?_)
  walk_at "rd"
  refine al_tup S10 (by walk_at "gv") (by simp [sizeLine_eq]) (fun t11 G11 H11 E11 S11 f11 => ?_)
  walk_at "rd"
  refine al_tup S11 (by walk_at "gv") (by simp [sizeLine_eq]) (fun t12 G12 H12 E12 S12 f12 => ?_)
  walk_at "rd"
  refine al_tup S12 (by walk_at "gv") (by simp [sizeLine_eq]) (fun t13 G13 H13 E13 S13 f13 => ?_)
  walk_at "rd"
  refine ⟨by simp [sizeLine_eq], fun p4 hp4 => ?_⟩
  obtain ⟨G14, E14, S14, f14⟩ := S13.addG (o := .lst [.ref t9, .ref t10, .ref t11, .ref t12, .ref t13]) hp4
  walk_at "rd"
  refine ⟨by simp [sizeLine_eq], fun pp hpp => ?_⟩
  obtain ⟨G15, E15, S15, f15⟩ := S14.addG (o := .lst [.ref p0, .ref p1, .ref p2, .ref p3, .ref p4]) hpp
  have q0 : rL rP (srtL 0) (.ref p0) G15 := ⟨p0, _, rfl, (((((((((((((E2.trans E3).trans E4).trans E5).trans E6).trans E7).trans E8).trans E9).trans E10).trans E11).trans E12).trans E13).trans E14).trans E15) _ _ f1, All2.nil⟩
  have q1 : rL rP (srtL 1) (.ref p1) G15 := ⟨p1, _, rfl, ((((((((((((E3.trans E4).trans E5).trans E6).trans E7).trans E8).trans E9).trans E10).trans E11).trans E12).trans E13).trans E14).trans E15) _ _ f2, All2.nil⟩
  have q2 : rL rP (srtL 2) (.ref p2) G15 := ⟨p2, _, rfl, ((((((((((E5.trans E6).trans E7).trans E8).trans E9).trans E10).trans E11).trans E12).trans E13).trans E14).trans E15) _ _ f4, (All2.cons (⟨t3, _, _, rfl, (((((((((((E4.trans E5).trans E6).trans E7).trans E8).trans E9).trans E10).trans E11).trans E12).trans E13).trans E14).trans E15) _ _ f3, rfl, rfl⟩ : rP (0, 1) (.ref t3) G15) All2.nil)⟩
  have q3 : rL rP (srtL 3) (.ref p3) G15 := ⟨p3, _, rfl, ((((((E9.trans E10).trans E11).trans E12).trans E13).trans E14).trans E15) _ _ f8, (All2.cons (⟨t5, _, _, rfl, (((((((((E6.trans E7).trans E8).trans E9).trans E10).trans E11).trans E12).trans E13).trans E14).trans E15) _ _ f5, rfl, rfl⟩ : rP (0, 1) (.ref t5) G15) (All2.cons (⟨t6, _, _, rfl, ((((((((E7.trans E8).trans E9).trans E10).trans E11).trans E12).trans E13).trans E14).trans E15) _ _ f6, rfl, rfl⟩ : rP (1, 2) (.ref t6) G15) (All2.cons (⟨t7, _, _, rfl, (((((((E8.trans E9).trans E10).trans E11).trans E12).trans E13).trans E14).trans E15) _ _ f7, rfl, rfl⟩ : rP (0, 1) (.ref t7) G15) All2.nil)))⟩
  have q4 : rL rP (srtL 4) (.ref p4) G15 := ⟨p4, _, rfl, E15 _ _ f14, (All2.cons (⟨t9, _, _, rfl, (((((E10.trans E11).trans E12).trans E13).trans E14).trans E15) _ _ f9, rfl, rfl⟩ : rP (0, 1) (.ref t9) G15) (All2.cons (⟨t10, _, _, rfl, ((((E11.trans E12).trans E13).trans E14).trans E15) _ _ f10, rfl, rfl⟩ : rP (2, 3) (.ref t10) G15) (All2.cons (⟨t11, _, _, rfl, (((E12.trans E13).trans E14).trans E15) _ _ f11, rfl, rfl⟩ : rP (0, 2) (.ref t11) G15) (All2.cons (⟨t12, _, _, rfl, ((E13.trans E14).trans E15) _ _ f12, rfl, rfl⟩ : rP (1, 3) (.ref t12) G15) (All2.cons (⟨t13, _, _, rfl, (E14.trans E15) _ _ f13, rfl, rfl⟩ : rP (1, 2) (.ref t13) G15) All2.nil)))))⟩
  have hq : ∃ ap, atI [V.ref p0, V.ref p1, V.ref p2, V.ref p3, V.ref p4] (n : Int) = some (.ref ap) ∧ rL rP (srtL n) (.ref ap) G15 := by
    have hc : n = 1 ∨ n = 2 ∨ n = 3 ∨ n = 4 := by omega
    rcases hc with rfl | rfl | rfl | rfl
    · exact ⟨p1, rfl, q1⟩
    · exact ⟨p2, rfl, q2⟩
    · exact ⟨p3, rfl, q3⟩
    · exact ⟨p4, rfl, q4⟩
  obtain ⟨ap, hap, aq, xs, eap, hxs, al⟩ := hq
  cases eap
  obtain ⟨hs1, hs2⟩ := srtL_in n hn
  have Eb := ((((((((((((((E1.trans E2).trans E3).trans E4).trans E5).trans E6).trans E7).trans E8).trans E9).trans E10).trans E11).trans E12).trans E13).trans E14).trans E15)
  walk_at "rd"
  refine al_lsTM S15 (S15.g _ _ (Eb _ _ hb)) (fun pw M20 H20 e20 S20 f20 n20 _ => ?_)
  walk_at "rd"
  refine al_lstM S20 (by walk_at "gv") (by simp) (fun pf M21 H21 e21 S21 f21 n21 _ => ?_)
  have hwf : pw ≠ pf := fun z => by subst z; rw [n21] at f20; cases f20
  walk_at "rd"
  refine loopL xs (fun i σ G' M' => ∃ z5 z6 z7, ∃ (now : List Int) (cs : List Cp) (acc : List V), σ = [some (.int n), some (.ref b), some (.ref ap), some (.ref pw), some (.ref pf), z5, z6, z7] ∧ Same G15 G' ∧ (∀ b, b ≠ pw → b ≠ pf → M' b = M b) ∧ M' pw = some (.lst (now.map V.int)) ∧ now.length = n ∧ (∀ v ∈ now, 0 ≤ v ∧ v < n) ∧
      M' pf = some (.lst acc) ∧ All2 rP G' cs acc ∧ cs.length = i ∧ ∀ c ∈ cs, CpIn n c) S21 (by walk_at "gv")
    ⟨_, _, _, nm, [], [], rfl, Same.refl _, fun b h1 h2 => (e21 b h2).trans (e20 b h1), by rw [e21 _ hwf]; exact f20, hnl, hin, f21, All2.nil, rfl, fun c hc => by cases hc⟩ (fun i σ G' M' hI H' S' => ?_) (fun i x3 σ G' M' H' hx3 hI S' => ?_) (fun σ G' M' H' hI S' => ?_)
  · obtain ⟨_, _, _, _, _, _, rfl, E', _⟩ := hI
    exact S'.g _ _ (E' _ _ hxs)
  · obtain ⟨z5, z6, z7, now, cs, acc, rfl, E', e', fw, hl, hv, ff, al', hc, hcs⟩ := hI
    obtain ⟨c, ec, hcp⟩ := al.at hx3
    obtain ⟨t, rfl, ht⟩ := rP_ti hcp
    obtain ⟨b1, b2, b3, b4⟩ := hs2 c (List.mem_of_getElem? ec)
    have hi : i < (srtL n).length := (List.getElem?_eq_some_iff.mp ec).1
    have ht2 := E' _ _ ht
    have hp0 : atI ([c.1, c.2].map V.int) 0 = some (.int c.1) := rfl
    have hp1 : atI ([c.1, c.2].map V.int) 1 = some (.int c.2) := rfl
    have a1 := lay_at b1 b2 hl
    have a2 := lay_at b3 b4 hl
    have g1 := in_getD hv (k := c.1.toNat) (by omega)
    have g2 := in_getD hv (k := c.2.toNat) (by omega)
    have hal := al'.len
    walk_at "rd"
    refine ⟨_, _, rfl, ?_⟩
    walk_at "rd"
    refine ⟨_, _, rfl, ?_⟩
    have glo : 0 ≤ (if now.getD c.2.toNat 0 < now.getD c.1.toNat 0 then now.getD c.2.toNat 0 else now.getD c.1.toNat 0) ∧ (if now.getD c.2.toNat 0 < now.getD c.1.toNat 0 then now.getD c.2.toNat 0 else now.getD c.1.toNat 0) < n := by split <;> assumption
    have ghi : 0 ≤ (if now.getD c.2.toNat 0 > now.getD c.1.toNat 0 then now.getD c.2.toNat 0 else now.getD c.1.toNat 0) ∧ (if now.getD c.2.toNat 0 > now.getD c.1.toNat 0 then now.getD c.2.toNat 0 else now.getD c.1.toNat 0) < n := by split <;> assumption
    generalize (if now.getD c.2.toNat 0 < now.getD c.1.toNat 0 then now.getD c.2.toNat 0 else now.getD c.1.toNat 0) = lo at *
    generalize (if now.getD c.2.toNat 0 > now.getD c.1.toNat 0 then now.getD c.2.toNat 0 else now.getD c.1.toNat 0) = hi2 at *
    walk_at "rd"
    refine ⟨ty_lst (S'.m _ _ ff), ?_⟩
    walk_at "rd"
    refine al_tup S' (by walk_at "gv") (by simp [sizeLine_eq]) (fun q G22 H22 E22 S22 f22 => ?_)
    walk_at "rd"
    refine rd_appM S22 ff (by rw [sizeLine_eq]; omega) (fun M23 H23 e23 S23 f23 => ?_)
    have fw3 : M23 pw = some (.lst (now.map V.int)) := by rw [e23 _ hwf]; exact fw
    walk_at "rd"
    refine rd_setM S23 fw3 (lay_set b1 b2 hl) (fun M24 H24 e24 S24 f24 => ?_)
    rw [← List.map_set] at f24
    walk_at "rd"
    refine rd_setM S24 f24 (lay_set b3 b4 (by rw [List.length_set]; exact hl)) (fun M25 H25 e25 S25 f25 => ?_)
    rw [← List.map_set] at f25
    refine ⟨_, _, S25, _, _, _, _, cs ++ [(lo, hi2)], acc ++ [.ref q], rfl, E'.trans E22, fun b h1 h2 => (e25 b h1).trans ((e24 b h1).trans ((e23 b h2).trans (e' b h1 h2))), f25, by simp [hl], in_set (in_set hv glo) ghi, ?_, (al'.up up_P E22).snoc ⟨q, _, _, rfl, f22, rfl, rfl⟩, by rw [List.length_append, hc]; rfl, fun c' hc' => ?_⟩
    · rw [e25 _ hwf.symm, e24 _ hwf.symm]; exact f23
    · rcases List.mem_append.mp hc' with hc' | hc'
      · exact hcs c' hc'
      · have := List.mem_singleton.mp hc'
        subst this
        exact ⟨glo.1, glo.2, ghi.1, ghi.2⟩
  · obtain ⟨z5, z6, z7, now, cs, acc, rfl, E', e', fw, hl, hv, ff, al', hc, hcs⟩ := hI
    obtain ⟨G5, E5, S5, f5⟩ := S'.close fw
    walk_at "rd"
    refine k pf acc G5 _ H' ((Eb.trans E').trans E5) (fun b hb2 => ?_) (by rw [← e20 _ hwf.symm]; exact n21) S5 (by rw [del_ne hwf.symm]; exact ff) ⟨cs, al'.up up_P E5, by rw [hc, al.len], hcs⟩
    by_cases h1 : b = pw
    · subst h1; rw [del_same, n20]
    · rw [del_ne h1]; exact e' b h1 hb2
end
end N
/-! LK: masks as sets; the law: value, the chosen states -/
namespace N
open PySem L2
theorem mask_bit (s : Row) (j : Nat) : (maskM s).testBit j = decide (∃ c ∈ s, c.toNat = j) := by
  have go : ∀ (s : Row) (m : Nat), (s.foldl (fun m c => m ||| 2 ^ c.toNat) m).testBit j = (m.testBit j || decide (∃ c ∈ s, c.toNat = j)) := by
    intro s
    induction s with
    | nil => intro m; simp
    | cons c s ih =>
      intro m
      rw [List.foldl_cons, ih, Nat.testBit_or, Nat.testBit_two_pow, Bool.or_assoc]
      congr 1
      by_cases h : c.toNat = j
      · simp [h]
      · simp [h]
  rw [maskM, go]
  simp
theorem mask_sub {a b : Row} (ha : ∀ c ∈ a, 0 ≤ c) (hb : ∀ c ∈ b, 0 ≤ c) : maskM a &&& maskM b = maskM a ↔ ∀ c ∈ a, c ∈ b := by
  constructor
  · intro h c hc
    have h1 : (maskM a &&& maskM b).testBit c.toNat = (maskM a).testBit c.toNat := by rw [h]
    rw [Nat.testBit_and, mask_bit, mask_bit] at h1
    have h2 : decide (∃ d ∈ a, d.toNat = c.toNat) = true := decide_eq_true ⟨c, hc, rfl⟩
    rw [h2, Bool.true_and] at h1
    obtain ⟨d, hd, e⟩ := of_decide_eq_true h1
    have := ha c hc
    have := hb d hd
    have : d = c := by omega
    exact this ▸ hd
  · intro h
    apply Nat.eq_of_testBit_eq
    intro j
    rw [Nat.testBit_and, mask_bit, mask_bit]
    by_cases h1 : ∃ c ∈ a, c.toNat = j
    · obtain ⟨c, hc, e⟩ := h1
      rw [decide_eq_true (⟨c, hc, e⟩ : ∃ c ∈ a, c.toNat = j), decide_eq_true (⟨c, h c hc, e⟩ : ∃ c ∈ b, c.toNat = j)]
      rfl
    · rw [decide_eq_false h1, Bool.false_and]
theorem mask_eq {a b : Row} (h : ∀ c, c ∈ a ↔ c ∈ b) : maskM a = maskM b := by
  apply Nat.eq_of_testBit_eq
  intro j
  rw [mask_bit, mask_bit]
  exact decide_eq_decide.mpr ⟨fun ⟨c, hc, e⟩ => ⟨c, (h c).mp hc, e⟩, fun ⟨c, hc, e⟩ => ⟨c, (h c).mpr hc, e⟩⟩
theorem mask_lt {a : Row} (h : ∀ c ∈ a, 0 ≤ c ∧ c < 16) : maskM a < 65536 := by
  have : maskM a < 2 ^ 16 := by
    apply Nat.lt_pow_two_of_testBit
    intro j hj
    rw [mask_bit]
    refine decide_eq_false fun ⟨c, hc, e⟩ => ?_
    have := h c hc
    omega
  simpa using this
theorem nodup_le : ∀ (n : Nat) (l : List Nat), l.Nodup → (∀ x ∈ l, x < n) → l.length ≤ n
  | 0, [], _, _ => Nat.le_refl _
  | 0, x :: l, _, h => absurd (h x (List.mem_cons_self ..)) (Nat.not_lt_zero _)
  | n + 1, l, hd, h => by
    by_cases hm : n ∈ l
    · have h1 := nodup_le n (l.erase n) (hd.erase n) fun x hx => by
        have h2 := (hd.mem_erase_iff).mp hx
        have := h x h2.2
        omega
      rw [List.length_erase_of_mem hm] at h1
      omega
    · have := nodup_le n l hd fun x hx => by
        have h1 := h x hx
        have h2 : x ≠ n := fun z => hm (z ▸ hx)
        omega
      omega
theorem tab_inv {x : Wd} (ok : WdOk x) {t : Row} (ht : t ∈ x.nm) : ∃ t' ∈ x.nm, ∀ s k : Row, CdOk x.rows.length s → k.Perm (tabM t s) → ∀ c, c ∈ tabM t' k ↔ c ∈ s := by
  obtain ⟨t', ht', h⟩ := ok.inv t ht
  refine ⟨t', ht', fun s k hs hp c => ?_⟩
  unfold tabM at hp ⊢
  rw [List.mem_map]
  constructor
  · rintro ⟨d, hd, rfl⟩
    obtain ⟨e, he, rfl⟩ := List.mem_map.mp (hp.mem_iff.mp hd)
    obtain ⟨e0, e1⟩ := hs.2.2 e he
    rw [h e e0 e1]
    exact he
  · intro hc
    obtain ⟨e0, e1⟩ := hs.2.2 c hc
    exact ⟨_, hp.mem_iff.mpr (List.mem_map.mpr ⟨c, hc, rfl⟩), h c e0 e1⟩
theorem perm_ok {n : Nat} {k s : Row} (h : k.Perm s) (hs : CdOk n s) : CdOk n k :=
  ⟨fun z => hs.1 (by rw [z] at h; exact h.symm.eq_nil), by rw [h.length_eq]; exact hs.2.1, fun c hc => hs.2.2 c (h.mem_iff.mp hc)⟩
structure ChosenOk (x : Wd) (ws ks : List Row) : Prop where
  el : ∀ k ∈ ks, ∃ w ∈ ws, k.Perm w ∨ ∃ t ∈ x.nm, k.Perm (tabM t w)
  al : ∀ w ∈ ws, ∃ k ∈ ks, ∃ t ∈ x.nm, ∀ c ∈ tabM t k, c ∈ w
  ne : ks ≠ []
  sz : ks.length ≤ 65537
/-- data of what is sorted there -/
abbrev Led := Int × Row
def rLed : Led → V → Hp → Prop := r2 rZ rLI
theorem up_Led : Up rLed := up_2 up_Z up_LI
def dLed (e : Led) : PyData := .tuple [.int e.1, dL e.2]
theorem alike_ints : ∀ a b : Row, PySem.W.alikeAll (a.map PyData.int) (b.map PyData.int) = true
  | [], _ => by rw [List.map_nil, PySem.W.alikeAll]
  | _ :: _, [] => by rw [List.map_nil, List.map_cons, PySem.W.alikeAll]
  | x :: a, y :: b => by rw [List.map_cons, List.map_cons, PySem.W.alikeAll, alike_ints a b]; simp [PySem.W.alike]
theorem alike_led (a b : Led) : PySem.W.alike (dLed a) (dLed b) = true := by
  simp [dLed, dL, PySem.W.alike, PySem.W.alikeAll, alike_ints]
theorem depth_led (a : Led) : (dLed a).depth ≤ 8 := by
  simp [dLed, dL, PyData.depth, PyData.depthAll, depth_ints]
theorem dp_led {K : PySem.W.Frag} {G M H : Hp} (S : Hs G M H) {e : Led} {v : V} (h : rLed e v G) : Dp K H v (dLed e) := by
  obtain ⟨a, x, y, rfl, ha, hx, b, rfl, hb⟩ := h
  cases hx
  exact .tup (SqT.of (S.g _ _ ha)) (.cons (.int _) (.cons (dp_L (S.g _ _ hb)) .nil))
/-- what is kept after some of them -/
structure KeptOk (x : Wd) (es : List Led) (done : List Led) (ks : List Row) (ms : List Nat) : Prop where
  el : ∀ k ∈ ks, ∃ e ∈ es, ∃ t ∈ x.nm, k.Perm (tabM t e.2)
  al : ∀ e ∈ done, ∃ k ∈ ks, ∃ t ∈ x.nm, ∀ c ∈ tabM t k, c ∈ e.2
  ln : ms.length = ks.length
  nd : ms.Nodup
  lt : ∀ m ∈ ms, m < 65536
  im : ∀ (j : Nat) k m, ks[j]? = some k → ms[j]? = some m → m ∈ imM x k
theorem KeptOk.len {x : Wd} {es done : List Led} {ks : List Row} {ms : List Nat} (h : KeptOk x es done ks ms) : ks.length ≤ 65536 := by
  rw [← h.ln]
  exact nodup_le _ _ h.nd h.lt
theorem KeptOk.cd {x : Wd} (ok : WdOk x) {es done : List Led} (hes : ∀ e ∈ es, CdOk x.rows.length e.2) {ks : List Row} {ms : List Nat} (h : KeptOk x es done ks ms) : ∀ k ∈ ks, CdOk x.rows.length k := fun k hk => by
  obtain ⟨e, he, t, ht, hp⟩ := h.el k hk
  exact perm_ok hp (tabM_ok (ok.nm t ht) (hes e he))
theorem kept_hit {x : Wd} (ok : WdOk x) {es done : List Led} (hes : ∀ e ∈ es, CdOk x.rows.length e.2) {ks : List Row} {ms : List Nat} (h : KeptOk x es done ks ms) {e : Led} (he : e ∈ es) {hs : List Cp} (hh : HitsOk (ks.map (imM x)) (maskM e.2) hs) (hne : hs ≠ []) :
    KeptOk x es (done ++ [e]) ks ms := by
  refine ⟨h.el, fun e' he' => ?_, h.ln, h.nd, h.lt, h.im⟩
  rcases List.mem_append.mp he' with he' | he'
  · exact h.al e' he'
  · have := List.mem_singleton.mp he'
    subst this
    obtain ⟨p, hp⟩ := List.exists_mem_of_ne_nil _ hne
    obtain ⟨i, j, _, im, y, h1, h2, h3⟩ := hh.el p hp
    rw [List.getElem?_map] at h1
    cases hk : ks[i]? with
    | none => rw [hk] at h1; cases h1
    | some k =>
      rw [hk] at h1
      cases h1
      unfold imM at h2
      rw [List.getElem?_map] at h2
      cases ht : x.nm[j]? with
      | none => rw [ht] at h2; cases h2
      | some t =>
        rw [ht] at h2
        cases h2
        have hkm := List.mem_of_getElem? hk
        have htm := List.mem_of_getElem? ht
        have hcd := tabM_ok (ok.nm t htm) (h.cd ok hes k hkm)
        exact ⟨k, hkm, t, htm, (mask_sub (fun c hc => (hcd.2.2 c hc).1) fun c hc => ((hes _ he).2.2 c hc).1).mp h3⟩
theorem kept_new {x : Wd} (ok : WdOk x) {es done : List Led} (hes : ∀ e ∈ es, CdOk x.rows.length e.2) {ks : List Row} {ms : List Nat} (h : KeptOk x es done ks ms) {e : Led} (he : e ∈ es) (hh : HitsOk (ks.map (imM x)) (maskM e.2) [])
    {t k : Row} (ht : t ∈ x.nm) (hk : k.Perm (tabM t e.2)) : KeptOk x es (done ++ [e]) (ks ++ [k]) (ms ++ [maskM e.2]) := by
  obtain ⟨t', ht', hinv⟩ := tab_inv ok ht
  have hi := hinv e.2 k (hes e he) hk
  have n16 := ok.n16
  refine ⟨fun k' hk' => ?_, fun e' he' => ?_, by simp [h.ln], ?_, fun m hm => ?_, fun j k' m h1 h2 => ?_⟩
  · rcases List.mem_append.mp hk' with hk' | hk'
    · exact h.el k' hk'
    · have := List.mem_singleton.mp hk'
      subst this
      exact ⟨e, he, t, ht, hk⟩
  · rcases List.mem_append.mp he' with he' | he'
    · obtain ⟨k', h1, h2⟩ := h.al e' he'
      exact ⟨k', List.mem_append_left _ h1, h2⟩
    · have := List.mem_singleton.mp he'
      subst this
      exact ⟨k, List.mem_append_right _ (List.mem_singleton_self _), t', ht', fun c hc => (hi c).mp hc⟩
  · refine List.nodup_append.mpr ⟨h.nd, by simp, fun a ha b hb => ?_⟩
    have := List.mem_singleton.mp hb
    subst this
    intro z
    subst z
    obtain ⟨j, hj⟩ := List.getElem?_of_mem ha
    have hjk : j < ks.length := by
      have := (List.getElem?_eq_some_iff.mp hj).1
      have := h.ln
      omega
    have hkj : ks[j]? = some ks[j] := List.getElem?_eq_getElem hjk
    have hm := h.im j _ _ hkj hj
    obtain ⟨q, hq⟩ := List.getElem?_of_mem hm
    exact hh.al j q ⟨imM x ks[j], maskM e.2, by rw [List.getElem?_map, hkj]; rfl, hq, Nat.and_self _⟩ rfl
  · rcases List.mem_append.mp hm with hm | hm
    · exact h.lt m hm
    · have := List.mem_singleton.mp hm
      subst this
      exact mask_lt fun c hc => by have := (hes e he).2.2 c hc; omega
  · by_cases hj : j < ks.length
    · rw [List.getElem?_append_left hj] at h1
      rw [List.getElem?_append_left (by rw [h.ln]; exact hj)] at h2
      exact h.im j k' m h1 h2
    · rw [List.getElem?_append_right (by omega)] at h1
      rw [List.getElem?_append_right (by rw [h.ln]; omega), h.ln] at h2
      have h3 := List.mem_singleton.mp (List.mem_of_getElem? h1)
      have h4 := List.mem_singleton.mp (List.mem_of_getElem? h2)
      subst h3
      subst h4
      unfold imM
      exact List.mem_map.mpr ⟨t', ht', mask_eq hi⟩
end N
/-! LL: the law: value, chosen -/
namespace N
open PySem L2
theorem rest_set {M M' : Hp} {R p : Addr} (h : Rest M R) (e : ∀ b, b ≠ p → M' b = M b) (n : p ≠ R) : Rest M' R := by
  obtain ⟨ns, h⟩ := h
  exact ⟨ns, by rw [e _ (Ne.symm n)]; exact h⟩
theorem rest_ne {M : Hp} {R p : Addr} {o : HO} (h : Rest M R) (n : M p = none) : p ≠ R := fun z => by
  obtain ⟨ns, h⟩ := h
  subst z
  rw [n] at h
  cases h
theorem drawn_in {i n : Int} (h0 : 0 ≤ i) (h1 : i < n) {xs : List V} (hl : (xs.length : Int) = n) : atI xs i = some (xs[i.toNat]'(by omega)) := at_of (j := i.toNat) (by omega) (List.getElem?_eq_getElem (by omega))
section
variable {P : Program} {w : World} {K : PySem.W.Frag} {mg : Str → Option Value} {base : Heap}
def sp_l_value : Sp := drawSp (fun (n : Int) R vs _ => ∃ v1 v2, vs = [v1, v2] ∧ v1 = .ref R ∧ v2 = .int n ∧ 0 ≤ n) (fun _ v _ => ∃ i : Int, v = .int i)
theorem ok_l_value (T : Bt mg) (F : Dfn K mg "_law_value" s_l_value) (h_l_draw : Has P w K mg base 1 "_law_draw" ["_law_rest", "_law_limit"] sp_l_draw) : Has P w K mg base 2 "_law_value" ["_law_rest", "_law_wires"] sp_l_value := by
  refine F.ok sc_l_value (fun _ _ _ _ _ _ us hl => match us, hl with | [_, _], _ => rfl) (fun vs H Q E h => by obtain ⟨_, _, _, _, _, _, ⟨_, _, rfl, _⟩, _⟩ := h; rfl) (fun f cdv A outer s H vs Q E hr h => ?_)
  obtain ⟨G, M, R, n, S, hR, ⟨v1, v2, rfl, rfl, rfl, hn⟩, k⟩ := h
  refine ⟨_, (pss_cons (ps_set (i := 2) sc_l_value.nd rfl (Or.inl rfl) (pe_fn h_l_draw hr (pa_cons (pv 0) (pa_cons pe_int pa_nil))))
    (pss_cons (ps_if (pt_cmpR op_eq (pe_op op_mod (pv 2) pe_int) pe_int (nomark _))
     (pss_one (ps_ret (pe_op op_mul (pe_op op_sub (pe_op op_fdiv (pv 2) pe_int) pe_int) (pe_op op_add (pe_op op_pow pe_int pe_int) pe_int))))
     pss_nil)
    (pss_one (ps_ret (pe_op op_sub (pe_op op_mod (pe_op op_fdiv (pv 2) pe_int) (pe_op op_add (pv 1) pe_int)) pe_int))))), ?_⟩
  walk_at "rd"
  refine ⟨G, M, R, 1000000, S, hR, ⟨_, _, rfl, rfl, rfl, by decide⟩, fun v G1 M1 H1 E1 O1 R1 S1 ⟨i, ei, h0, h1⟩ => ?_⟩
  subst ei
  walk_at "rd"
  refine rd_ite (fun h2 => ?_) (fun h2 => ?_)
  · walk_at "rd"
    refine ⟨_, _, rfl, rfl, .inl ⟨by omega, by omega⟩, ?_⟩
    exact k _ G1 M1 H1 E1 O1 R1 S1 ⟨_, rfl⟩
  · walk_at "rd"
    refine ⟨_, _, rfl, rfl, by dsimp only; omega, ?_⟩
    walk_at "rd"
    exact k _ G1 M1 H1 E1 O1 R1 S1 ⟨_, rfl⟩
def sp_l_chosen : Sp := drawSp (fun (x : List Row × Wd) R vs G => ∃ v1 v2 v3, vs = [v1, v2, v3] ∧ rL rLI x.1 v1 G ∧ rWd x.2 v2 G ∧ v3 = .ref R ∧ WdOk x.2 ∧ x.1 ≠ [] ∧ (∀ w ∈ x.1, CdOk x.2.rows.length w) ∧ x.1.length ≤ 700000)
  (fun x v G => ∃ ks, rL rLI ks v G ∧ ChosenOk x.2 x.1 ks)
theorem ok_l_chosen (T : Bt mg) (F : Dfn K mg "_law_chosen" s_l_chosen) (h_l_draw : Has P w K mg base 1 "_law_draw" ["_law_rest", "_law_limit"] sp_l_draw) (h_l_hits : Has P w K mg base 2 "_law_hits" ["_law_images_here", "_law_led"] sp_l_hits)
    (h_l_images : Has P w K mg base 2 "_law_images" ["_law_state", "_law_world_here"] sp_l_images) : Has P w K mg base 3 "_law_chosen" ["_law_wanted_here", "_law_world_here", "_law_rest"] sp_l_chosen := by
  refine F.ok sc_l_chosen (fun _ _ _ _ _ _ us hl => match us, hl with | [_, _, _], _ => rfl) (fun vs H Q E h => by obtain ⟨_, _, _, _, _, _, ⟨_, _, _, rfl, _⟩, _⟩ := h; rfl) (fun f cdv A outer s H vs Q E hr h => ?_)
  obtain ⟨G, M, R, ⟨ws, x⟩, S, hR, ⟨v1, v2, v3, rfl, ⟨a, xs, rfl, ha, al⟩, hw, rfl, ok, hne, hcd, hsz⟩, k⟩ := h
  dsimp only at hw ok hne hcd hsz al k
  obtain ⟨wa, w1, w2, w3, w4, rfl, hwa, hw1, hw2, ⟨ta, ts, rfl, hta, tl⟩, hw4⟩ := id hw
  refine ⟨_, (pss_cons (ps_set (i := 3) sc_l_chosen.nd rfl (Or.inl rfl) (pe_lst pa_nil))
    (pss_cons (ps_set (i := 4) sc_l_chosen.nd rfl (Or.inl rfl) (pe_lst pa_nil))
    (pss_cons (ps_for PassesOwn.never rfl (piL K (pe_callB (srtD K (hu := hr.units)) (by rfl) T.sorted (by decide +kernel) (pa_cons (pe_lc (own := [("_law_led", 6)]) rfl sc_l_chosen.nd (piL K (pv 0)) (blkOk_by (N := ["_law_wanted_here", "_law_world_here", "_law_rest", "_law_kept", "_law_images_here", "_law_entry_here", "_law_led", "_law_table", "_law_code_here", "_law_turn"]) (sc := defScope s_l_chosen) (by decide +kernel)) (fun _ _ _ _ _ => (pg_name (i := 6) sc_l_chosen.nd rfl (Or.inl rfl))) (fun _ _ _ _ _ => pts_nil) (fun _ _ _ _ _ => (pe_tup (pa_cons (pe_callB (lenS K) (by rfl) T.len PySem.boot_len (pa_cons (pv 6) pa_nil)) (pa_cons (pv 6) pa_nil))))) pa_nil))) (pg_name (i := 5) sc_l_chosen.nd rfl (Or.inl rfl))
     (pss_one (ps_if (pt_cmpR op_eq (pe_callB (lenS K) (by rfl) T.len PySem.boot_len (pa_cons (pe_fn h_l_hits hr (pa_cons (pv 4) (pa_cons (pe_ix (ixT K) (pv 5) pe_int (fun _ _ => rfl)) pa_nil))) pa_nil)) pe_int (nomark _))
      (pss_cons (ps_set (i := 7) sc_l_chosen.nd rfl (Or.inr rfl) (pe_ix (ixL K) (pe_ix (ixL K) (pv 1) pe_int (fun _ _ => rfl)) (pe_fn h_l_draw hr (pa_cons (pv 2) (pa_cons (pe_callB (lenS K) (by rfl) T.len PySem.boot_len (pa_cons (pe_ix (ixL K) (pv 1) pe_int (fun _ _ => rfl)) pa_nil)) pa_nil))) (fun _ _ => rfl)))
      (pss_cons (ps_expr (pe_bm PySem.F.plainAttrs_list PySem.F.slot_list_append PySem.F.type_list_append mt_append (pv 3) (pa_cons (pe_callB (srtI K) (by rfl) T.sorted (by decide +kernel) (pa_cons (pe_lc (own := [("_law_code_here", 8)]) rfl sc_l_chosen.nd (piL K (pe_ix (ixT K) (pv 5) pe_int (fun _ _ => rfl))) (blkOk_by (N := ["_law_wanted_here", "_law_world_here", "_law_rest", "_law_kept", "_law_images_here", "_law_entry_here", "_law_led", "_law_table", "_law_code_here", "_law_turn"]) (sc := defScope s_l_chosen) (by decide +kernel)) (fun _ _ _ _ _ => (pg_name (i := 8) sc_l_chosen.nd rfl (Or.inl rfl))) (fun _ _ _ _ _ => pts_nil) (fun _ _ _ _ _ => (pe_ix (ixL K) (pv 7) (pv 8) (fun _ _ => rfl)))) pa_nil)) pa_nil)))
      (pss_one (ps_expr (pe_bm PySem.F.plainAttrs_list PySem.F.slot_list_append PySem.F.type_list_append mt_append (pv 4) (pa_cons (pe_fn h_l_images hr (pa_cons (pe_ix (ixL K) (pv 3) (pe_un un_neg pe_int) (fun _ _ => rfl)) (pa_cons (pv 1) pa_nil))) pa_nil))))))
      pss_nil)))
    (pss_cons (ps_if (pt_cmpR op_eq (pe_fn h_l_draw hr (pa_cons (pv 2) (pa_cons pe_int pa_nil))) pe_int (nomark _))
     (pss_one (ps_expr (pe_bm PySem.F.plainAttrs_list PySem.F.slot_list_append PySem.F.type_list_append mt_append (pv 3) (pa_cons (pe_callTy (lstO K) (by rfl) T.list (by decide +kernel) (pa_cons (pe_ix (ixL K) (pv 0) (pe_fn h_l_draw hr (pa_cons (pv 2) (pa_cons (pe_callB (lenS K) (by rfl) T.len PySem.boot_len (pa_cons (pv 0) pa_nil)) pa_nil))) (fun _ _ => rfl)) pa_nil)) pa_nil))))
     pss_nil)
    (pss_cons (ps_set (i := 9) sc_l_chosen.nd rfl (Or.inl rfl) (pe_fn h_l_draw hr (pa_cons (pv 2) (pa_cons (pe_callB (lenS K) (by rfl) T.len PySem.boot_len (pa_cons (pv 3) pa_nil)) pa_nil))))
    (pss_one (ps_ret (pe_op op_cat (pe_slice (slL K) (pv 3) (po_some (pv 9)) po_none) (pe_slice (slL K) (pv 3) po_none (po_some (pv 9))))))))))), ?_⟩
  have hat2 : atI [w1, w2, V.ref ta, w4] 2 = some (.ref ta) := rfl
  have hnl := tl.len
  have hn0 : 0 < x.nm.length := List.length_pos_iff.mpr ok.n0
  have n16 := ok.n16
  walk_at "rd"
  refine al_lstM S (by walk_at "gv") (by simp) (fun pk M1 H1 e1 S1 f1 n1 _ => ?_)
  walk_at "rd"
  refine al_lstM S1 (by walk_at "gv") (by simp) (fun pi M2 H2 e2 S2 f2 n2 _ => ?_)
  have hki : pk ≠ pi := fun z => by subst z; rw [n2] at f1; cases f1
  have hkR : pk ≠ R := rest_ne (o := .lst []) hR n1
  have hiR : pi ≠ R := rest_ne (o := .lst []) (rest_set hR e1 hkR) n2
  have ni : M pi = none := by rw [← e1 _ hki.symm]; exact n2
  walk_at "rd"
  apply rd_fL
  walk_at "rd"
  refine compL up_Led ((ws.map fun w => ((w.length : Int), w)).map some) S2 (by walk_at "gv") ha (by simp [al.len]) (by simp [sizeLine_eq]; omega) (by intro _; rfl) yes_all (fun i1 x1 y1 G5 M5 H5 hx1 ho E5 S5 Q' kk => ?_) (fun p acc3 G5 H5 E5 S5 e al2 => ?_)
  · have ey := some_at ho
    obtain ⟨c, ec, q, rfl, hq⟩ := al.at hx1
    rw [List.getElem?_map, ec] at ey
    cases ey
    have hq5 := E5 _ _ hq
    walk_at "rd"
    refine al_tup S5 (by intro R_ q_; walk_at "rd"; exact q_) (by simp [sizeLine_eq]) (fun p G6 H6 E6 S6 f6 => ?_)
    exact kk _ G6 H6 E6 S6 ⟨p, _, _, rfl, f6, by simp [rZ], q, rfl, E6 _ _ hq5⟩
  rw [filt_some] at al2
  walk_at "rd"
  refine ⟨p, acc3, (ws.map fun w => ((w.length : Int), w)).map dLed, rfl, SqL.of (S5.g _ _ e), dp_of (fun x v h => dp_led S5 h) acc3 _ al2, ?_, .inl ?_, ?_, fun out q hp hq => ?_⟩
  · intro d hd d' hd'
    obtain ⟨l, _, rfl⟩ := List.mem_map.mp hd
    obtain ⟨l', _, rfl⟩ := List.mem_map.mp hd'
    exact alike_led l l'
  · intro d hd
    obtain ⟨l, hl, rfl⟩ := List.mem_map.mp hd
    exact ⟨_, _, rfl⟩
  · intro d hd
    obtain ⟨l, hl, rfl⟩ := List.mem_map.mp hd
    exact depth_led l
  obtain ⟨es, hp', al'⟩ := All2.perm hp _ al2
  obtain ⟨G6, E6, S6, f6⟩ := S5.addG (o := .lst out) hq
  have alE := al'.up up_Led E6
  have hes : ∀ e ∈ es, CdOk x.rows.length e.2 ∧ e.2 ∈ ws := fun e he => by
    obtain ⟨w, hw, rfl⟩ := List.mem_map.mp (hp'.mem_iff.mp he)
    exact ⟨hcd w hw, hw⟩
  have hes1 : ∀ e ∈ es, CdOk x.rows.length e.2 := fun e he => (hes e he).1
  have hes2 : ∀ w ∈ ws, ∃ e ∈ es, e.2 = w := fun w hw => ⟨_, hp'.mem_iff.mpr (List.mem_map.mpr ⟨w, hw, rfl⟩), rfl⟩
  have E06 := E5.trans E6
  walk_at "rd"
  refine loopL out (fun i σ G' M' => ∃ z5 z6 z7 z8 z9 ks ms accK accI, σ = [some (.ref a), some (.ref wa), some (.ref R), some (.ref pk), some (.ref pi), z5, z6, z7, z8, z9] ∧ Same G6 G' ∧ (∀ b, b ≠ R → b ≠ pk → b ≠ pi → M' b = M b) ∧ Rest M' R ∧
      M' pk = some (.lst accK) ∧ M' pi = some (.lst accI) ∧ All2 rLI G' ks accK ∧ All2 rIm G' (ks.map (imM x)) accI ∧ KeptOk x es (es.take i) ks ms) S6 gv_cE
    ⟨_, _, _, _, _, [], [], [], [], rfl, Same.refl _, fun b _ h1 h2 => (e2 b h2).trans (e1 b h1), rest_set (rest_set hR e1 hkR) e2 hiR, by rw [e2 _ hki]; exact f1, f2, All2.nil, All2.nil, ⟨(fun k hk => by cases hk), (fun e he => by simp at he), rfl, by simp, (fun m hm => by cases hm), fun j k m h1 _ => by simp at h1⟩⟩
    (fun i σ G' M' hI H' S' => ?_) (fun i x3 σ G' M' H' hx3 hI S' => ?_) (fun σ G' M' H' hI S' => ?_)
  · obtain ⟨_, _, _, _, _, _, _, _, _, rfl, E', _⟩ := hI
    exact S'.g _ _ (E' _ _ f6)
  · obtain ⟨z5, z6, z7, z8, z9, ks, ms, accK, accI, rfl, E', e', hR', fk, fi, alK, alI, kp⟩ := hI
    obtain ⟨en, een, tn, nv, lv, rfl, htn, hnv, lb, rfl, hlb⟩ := alE.at hx3
    have hen := List.mem_of_getElem? een
    have hec := hes1 en hen
    have hkl := kp.len
    have htn2 := E' _ _ htn
    have hlb2 := E' _ _ hlb
    have hat1 : atI [nv, V.ref lb] 1 = some (.ref lb) := rfl
    have E0' := E06.trans E'
    have hkcd := kp.cd ok hes1
    walk_at "rd"
    -- the images are lent to the call
    obtain ⟨Gl, El, Sl, fl⟩ := S'.close fi
    refine ⟨Gl, del M' pi, (ks.map (imM x), en.2), Sl, ⟨_, _, rfl, ⟨pi, accI, rfl, fl, alI.up up_Im El⟩, ⟨lb, rfl, El _ _ hlb2⟩, by dsimp only; rw [List.length_map]; omega, fun im him => ?_, fun c hc => by have := hec.2.2 c hc; omega⟩, fun v Gh Hh Eh Sh ⟨hs, ⟨hb, ys, ev, hhb, hl⟩, hits⟩ => ?_⟩
    · obtain ⟨k', _, rfl⟩ := List.mem_map.mp him
      rw [imM, List.length_map]
      exact ok.nz
    subst ev
    obtain ⟨G7, E7, S7, k7⟩ := S'.thaw fi El fl Eh Sh
    have hHb := Sh.g _ _ hhb
    have hyl := hl.len
    walk_at "rd"
    have take_e : es.take (i + 1) = es.take i ++ [en] := take_push een
    refine rd_ite (fun h0 => ?_) (fun h0 => ?_)
    · have hs0 : hs = [] := List.length_eq_zero_iff.mp (by omega)
      subst hs0
      walk_at "rd"
      have hta7 := E7 _ _ (E0' _ _ hta)
      have hwa7 := E7 _ _ (E0' _ _ hwa)
      walk_at "rd"
      refine ⟨G7, M', R, ts.length, S7, hR', ⟨_, _, rfl, rfl, rfl, by omega⟩, fun v G8 M8 H8 E8 O8 R8 S8 ⟨d, ed, d0, d1⟩ => ?_⟩
      subst ed
      obtain ⟨t, tv, et, eat, tb, etv, htb⟩ := at_rel tl d0 d1
      subst etv
      have htm := List.mem_of_getElem? et
      have htok := ok.nm t htm
      have fk8 : M8 pk = some (.lst accK) := by rw [O8 _ hkR]; exact fk
      have fi8 : M8 pi = some (.lst accI) := by rw [O8 _ hiR]; exact fi
      walk_at "rd"
      refine ⟨ty_lst (S8.m _ _ fk8), ?_⟩
      walk_at "rd"
      have E08 := (E0'.trans E7).trans E8
      have hlb8 := E8 _ _ (E7 _ _ hlb2)
      have htb8 := E08 _ _ htb
      have htn8 := E8 _ _ (E7 _ _ htn2)
      apply rd_cL
      walk_at "rd"
      refine compL up_Z ((tabM t en.2).map some) S8 gv_cE hlb8 (by simp [tabM]) (by simp [tabM, sizeLine_eq]; have := hec.2.1; omega) (by intro _; rfl) yes_all (fun i1 x1 y1 G9 M9 H9 hx1 ho E9 S9 Q' kk => ?_) (fun p9 acc9 G9 H9 E9 S9 e9 al9 => ?_)
      · have ey := some_at ho
        obtain ⟨c, ec, rfl⟩ := int_at hx1
        unfold tabM at ey
        rw [List.getElem?_map, ec] at ey
        cases ey
        obtain ⟨c0, c1⟩ := hec.2.2 c (List.mem_of_getElem? ec)
        have hat := tab_at htok c0 c1
        have htb9 := E9 _ _ htb8
        walk_at "rd"
        exact kk _ G9 H9 (Same.refl _) S9 rfl
      · rw [filt_some] at al9
        have ea := al9.ints
        subst ea
        walk_at "rd"
        refine ⟨p9, _, rfl, SqL.of (S9.g _ _ e9), fun kn q9 hpm _ hq9 => ?_⟩
        obtain ⟨G10, E10, S10, f10⟩ := S9.addG (o := .lst (kn.map V.int)) hq9
        have hkl2 := alK.len
        have hil2 := alI.len
        rw [List.length_map] at hil2
        walk_at "rd"
        refine rd_appM S10 fk8 (by rw [sizeLine_eq]; omega) (fun M11 H11 e11 S11 f11 => ?_)
        have fi11 : M11 pi = some (.lst accI) := by rw [e11 _ hki.symm]; exact fi8
        walk_at "rd"
        refine ⟨ty_lst (S11.m _ _ fi11), ?_⟩
        have hlast : atI (accK ++ [V.ref q9]) (-1) = some (.ref q9) := atI_last _ _
        walk_at "rd"
        refine ⟨1, rfl, ?_⟩
        walk_at "rd"
        have E010 := (E08.trans E9).trans E10
        have hkn := perm_ok hpm (tabM_ok htok hec)
        refine ⟨G10, M11, (kn, x), S11, ⟨_, _, rfl, ⟨q9, rfl, f10⟩, up_Wd _ _ _ _ E010 hw, ok, hkn⟩, fun v G12 H12 E12 S12 h12 => ?_⟩
        dsimp only at h12
        walk_at "rd"
        refine rd_appM S12 fi11 (by rw [sizeLine_eq]; omega) (fun M13 H13 e13 S13 f13 => ?_)
        have E712 := ((E8.trans E9).trans E10).trans E12
        refine ⟨_, _, S13, _, _, _, _, _, ks ++ [kn], ms ++ [maskM en.2], _, _, rfl, (E'.trans E7).trans E712, fun b h1 h2 h3 => (e13 b h3).trans ((e11 b h2).trans ((O8 b h1).trans (e' b h1 h2 h3))), rest_set (rest_set R8 e11 hkR) e13 hiR, by rw [e13 _ hki]; exact f11, f13,
          (alK.up up_LI (E7.trans E712)).snoc ⟨q9, rfl, E12 _ _ f10⟩, ?_, ?_⟩
        · rw [List.map_append]
          exact (alI.up up_Im (E7.trans E712)).snoc h12
        · rw [take_e]
          exact kept_new ok hes1 kp hen hits htm hpm
    · walk_at "rd"
      have hne2 : hs ≠ [] := fun z => h0 (by rw [z] at hyl; simp at hyl; simp [hyl])
      refine ⟨_, _, S7, _, _, _, _, _, ks, ms, _, _, rfl, E'.trans E7, e', hR', fk, fi, alK.up up_LI E7, alI.up up_Im E7, ?_⟩
      rw [take_e]
      exact kept_hit ok hes1 kp hen hits hne2
  · obtain ⟨z5, z6, z7, z8, z9, ks, ms, accK, accI, rfl, E', e', hR', fk, fi, alK, alI, kp⟩ := hI
    rw [alE.len, List.take_length] at kp
    have hkl := kp.len
    have hxl := al.len
    have E0' := E06.trans E'
    have hw0 : 0 < ws.length := List.length_pos_iff.mpr hne
    walk_at "rd"
    refine ⟨G', M', R, 3, S', hR', ⟨_, _, rfl, rfl, rfl, by decide⟩, fun v G7 M7 H7 E7 O7 R7 S7 ⟨d, ed, d0, d1⟩ => ?_⟩
    subst ed
    have fk7 : M7 pk = some (.lst accK) := by rw [O7 _ hkR]; exact fk
    have fi7 : M7 pi = some (.lst accI) := by rw [O7 _ hiR]; exact fi
    have alK7 := alK.up up_LI E7
    have ha7 := E7 _ _ (E0' _ _ ha)
    have e7' : ∀ b, b ≠ R → b ≠ pk → b ≠ pi → M7 b = M b := fun b h1 h2 h3 => (O7 b h1).trans (e' b h1 h2 h3)
    have E07 := E0'.trans E7
    have co : ∀ ks' : List Row, ks' = ks ∨ (∃ w ∈ ws, ks' = ks ++ [w]) → ChosenOk x ws ks' := fun ks' hk => by
      refine ⟨fun k hk2 => ?_, fun w hw => ?_, fun z => ?_, ?_⟩
      · have base : k ∈ ks → ∃ w ∈ ws, k.Perm w ∨ ∃ t ∈ x.nm, k.Perm (tabM t w) := fun h => by
          obtain ⟨e, he, t, ht, hp⟩ := kp.el k h
          exact ⟨e.2, (hes e he).2, .inr ⟨t, ht, hp⟩⟩
        rcases hk with rfl | ⟨w, hw, rfl⟩
        · exact base hk2
        · rcases List.mem_append.mp hk2 with h | h
          · exact base h
          · have := List.mem_singleton.mp h
            subst this
            exact ⟨k, hw, .inl (.refl _)⟩
      · obtain ⟨e, he, rfl⟩ := hes2 w hw
        obtain ⟨k, hk2, t, ht, h⟩ := kp.al e he
        refine ⟨k, ?_, t, ht, h⟩
        rcases hk with rfl | ⟨w, hw, rfl⟩
        · exact hk2
        · exact List.mem_append_left _ hk2
      · obtain ⟨w, hw⟩ := List.exists_mem_of_ne_nil _ hne
        obtain ⟨e, he, _⟩ := hes2 w hw
        obtain ⟨k, hk2, _⟩ := kp.al e he
        rcases hk with rfl | ⟨w, hw, rfl⟩
        · rw [z] at hk2; cases hk2
        · simp at z
      · rcases hk with rfl | ⟨w, hw, rfl⟩
        · omega
        · rw [List.length_append, List.length_singleton]; omega
    walk_at "rd"
    refine rd_ite (fun h0 => ?ca) (fun h0 => ?cb)
    case' ca =>
      walk_at "rd"
      refine ⟨ty_lst (S7.m _ _ fk7), ?_⟩
      walk_at "rd"
      refine ⟨G7, M7, R, xs.length, S7, R7, ⟨_, _, rfl, rfl, rfl, by omega⟩, fun v G8 M8 H8 E8 O8 R8 S8 ⟨d, ed, d0, d1⟩ => ?_⟩
      subst ed
      obtain ⟨w0, wv, ew, eat, wb, ewv, hwb⟩ := at_rel al d0 d1
      subst ewv
      have hwm := List.mem_of_getElem? ew
      have fk8 : M8 pk = some (.lst accK) := by rw [O8 _ hkR]; exact fk7
      have fi8 : M8 pi = some (.lst accI) := by rw [O8 _ hiR]; exact fi7
      have E08 := E07.trans E8
      have hwb8 := E08 _ _ hwb
      have ha8 := E8 _ _ ha7
      have hkl2 := alK.len
      walk_at "rd"
      refine al_lsL S8 (S8.g _ _ hwb8) (fun l G9 H9 E9 S9 f9 => ?_)
      walk_at "rd"
      refine rd_appM S9 fk8 (by rw [sizeLine_eq]; omega) (fun M10 H10 e10 S10 f10 => ?_)
      obtain ⟨ks', eks⟩ : ∃ z, z = ks ++ [w0] := ⟨_, rfl⟩
      obtain ⟨acc', eacc⟩ : ∃ z, z = accK ++ [V.ref l] := ⟨_, rfl⟩
      have hco := co ks' (.inr ⟨w0, hwm, eks⟩)
      have alF : All2 rLI G9 ks' acc' := by
        rw [eks, eacc]
        exact (alK7.up up_LI (E8.trans E9)).snoc ⟨l, rfl, f9⟩
      rw [← eacc] at f10
      have SF := S10
      have RF : Rest M10 R := rest_set R8 e10 hkR
      have eF : ∀ b, b ≠ R → b ≠ pk → b ≠ pi → M10 b = M b := fun b h1 h2 h3 => (e10 b h2).trans ((O8 b h1).trans (e7' b h1 h2 h3))
      have fiF : M10 pi = some (.lst accI) := by rw [e10 _ hki.symm]; exact fi8
      have EF := E08.trans E9
    case' cb =>
      obtain ⟨ks', eks⟩ : ∃ z, z = ks := ⟨_, rfl⟩
      obtain ⟨acc', eacc⟩ : ∃ z, z = accK := ⟨_, rfl⟩
      obtain ⟨G9, eG9⟩ : ∃ z, z = G7 := ⟨_, rfl⟩
      obtain ⟨M10, eM10⟩ : ∃ z, z = M7 := ⟨_, rfl⟩
      have hco := co ks' (.inl eks)
      have alF : All2 rLI G9 ks' acc' := by
        rw [eks, eacc, eG9]
        exact alK7
      have f10 : M10 pk = some (.lst acc') := by rw [eM10, eacc]; exact fk7
      have SF : Hs G9 M10 H7 := by rw [eM10, eG9]; exact S7
      have RF : Rest M10 R := by rw [eM10]; exact R7
      have eF : ∀ b, b ≠ R → b ≠ pk → b ≠ pi → M10 b = M b := by rw [eM10]; exact e7'
      have fiF : M10 pi = some (.lst accI) := by rw [eM10]; exact fi7
      have EF : Same G G9 := by rw [eG9]; exact E07
    all_goals
      have hacl := alF.len
      have hk0 : 0 < ks'.length := List.length_pos_iff.mpr hco.ne
      walk_at "rd"
      refine ⟨G9, M10, R, acc'.length, SF, RF, ⟨_, _, rfl, rfl, rfl, by omega⟩, fun v G11 M11 H11 E11 O11 R11 S11 ⟨d, ed, d0, d1⟩ => ?_⟩
      subst ed
      have f11 : M11 pk = some (.lst acc') := by rw [O11 _ hkR]; exact f10
      have f11i : M11 pi = some (.lst accI) := by rw [O11 _ hiR]; exact fiF
      have hlz := hco.sz
      have c1 : cutV acc' (some d) none = acc'.drop d.toNat := by
        have h1 : HT.sIx acc'.length 0 (some d) = d.toNat := by
          simp only [HT.sIx]
          rw [if_neg (by omega)]
          omega
        unfold cutV
        rw [h1, HT.sIx_none, ← List.length_drop, List.take_length]
      have c2 : cutV acc' none (some d) = acc'.take d.toNat := by
        have h1 : HT.sIx acc'.length acc'.length (some d) = d.toNat := by
          simp only [HT.sIx]
          rw [if_neg (by omega)]
          omega
        unfold cutV
        rw [h1, HT.sIx_none]
        rfl
      walk_at "rd"
      refine al_slL S11 (S11.m _ _ f11) (fun s1 G12 H12 E12 S12 g12 => ?_)
      rw [c1] at g12
      walk_at "rd"
      refine al_slL S12 (S12.m _ _ f11) (fun s2 G13 H13 E13 S13 g13 => ?_)
      rw [c2] at g13
      walk_at "rd"
      refine al_cat S13 (S13.g _ _ (E13 _ _ g12)) (S13.g _ _ g13) (by rw [List.length_drop, List.length_take, sizeLine_eq]; omega) (fun s3 G14 H14 E14 S14 g14 => ?_)
      obtain ⟨G15, E15, S15, _⟩ := S14.close f11
      obtain ⟨G16, E16, S16, _⟩ := S15.close (p := pi) (o := .lst accI) (by rw [del_ne hki.symm]; exact f11i)
      have E1116 := (((E11.trans E12).trans (E13.trans E14)).trans E15).trans E16
      refine k _ G16 _ H14 (EF.trans E1116) (fun b hb => ?_) ?_ S16 ⟨ks'.drop d.toNat ++ ks'.take d.toNat, ⟨s3, _, rfl, E16 _ _ (E15 _ _ g14), ?_⟩, ?_⟩
      · by_cases h1 : b = pi
        · subst h1; rw [del_same, ni]
        · rw [del_ne h1]
          by_cases h2 : b = pk
          · subst h2; rw [del_same, n1]
          · rw [del_ne h2]
            exact (O11 b hb).trans (eF b hb h2 h1)
      · obtain ⟨ns, hns⟩ := R11
        exact ⟨ns, by rw [del_ne hiR.symm, del_ne hkR.symm]; exact hns⟩
      · have al3 := alF.up up_LI E1116
        refine All2.append ⟨by rw [List.length_drop, List.length_drop, hacl], fun i y v h1 h2 => ?_⟩ ⟨by rw [List.length_take, List.length_take, hacl], fun i y v h1 h2 => ?_⟩
        · rw [List.getElem?_drop] at h1 h2
          exact al3.get _ y v h1 h2
        · rw [List.getElem?_take] at h1 h2
          split at h1
          · rename_i hlt
            rw [if_pos hlt] at h2
            exact al3.get _ y v h1 h2
          · cases h1
      · have hm : ∀ k, k ∈ ks'.drop d.toNat ++ ks'.take d.toNat ↔ k ∈ ks' := fun k => by
          rw [List.mem_append, Or.comm, ← List.mem_append, List.take_append_drop]
        refine ⟨fun k hk => hco.el k ((hm k).mp hk), fun w hw => ?_, fun z => ?_, ?_⟩
        · obtain ⟨k, hk, h⟩ := hco.al w hw
          exact ⟨k, (hm k).mpr hk, h⟩
        · obtain ⟨k, hk⟩ := List.exists_mem_of_ne_nil _ hco.ne
          have := (hm k).mpr hk
          rw [z] at this
          cases this
        · rw [List.length_append, List.length_drop, List.length_take]
          omega
end
end N
/-! LM: lists of known kinds in the changing part; frozen -/
namespace N
open PySem L2
inductive Kd where
  | rows | covs | cpair (s : Row) | pair | level | levels | cmps
abbrev Sig := Addr → Option Kd
def okL (n : Nat) (Sg : Sig) (G : Hp) (B : Nat) : Kd → List V → Prop
  | .rows, xs => xs.length ≤ B ∧ ∀ x ∈ xs, ∃ r : Row, rTI r x G ∧ r.length ≤ B
  | .covs, xs => xs.length ≤ 1000000 + B ∧ ∀ x ∈ xs, ∃ e : Ent, rEnt e x G ∧ e.2.length ≤ B
  | .cpair s, xs => ∃ x b, xs = [x, .ref b] ∧ rLI s x G ∧ CdOk n s ∧ Sg b = some .covs
  | .pair, xs => ∃ a b, xs = [.ref a, .ref b] ∧ Sg a = some .rows ∧ Sg b = some .covs
  | .level, xs => xs.length ≤ 100000 + B ∧ ∀ x ∈ xs, ∃ a, x = .ref a ∧ Sg a = some .pair
  | .levels, xs => xs.length ≤ B ∧ ∀ x ∈ xs, ∃ a, x = .ref a ∧ Sg a = some .level
  | .cmps, xs => xs.length ≤ B ∧ ∀ x ∈ xs, ∃ c : Cp, rP c x G
def Sto (n : Nat) (Sg : Sig) (G M : Hp) (B : Nat) : Prop := ∀ a k, Sg a = some k → ∃ xs, M a = some (.lst xs) ∧ okL n Sg G B k xs
/-- what is known stays known, but for a pair of codes -/
def Ext (Sg Sg' : Sig) : Prop := ∀ a k, Sg a = some k → (∀ s, k ≠ .cpair s) → Sg' a = some k
theorem Ext.refl (Sg : Sig) : Ext Sg Sg := fun _ _ h _ => h
theorem Ext.trans {A B C : Sig} (h : Ext A B) (k : Ext B C) : Ext A C := fun a q e n => k a q (h a q e n) n
theorem okL_up {n B B' : Nat} {Sg Sg' : Sig} {G G' : Hp} (e : Ext Sg Sg') (E : Same G G') (hB : B ≤ B') : ∀ {k : Kd} {xs : List V}, okL n Sg G B k xs → okL n Sg' G' B' k xs
  | .rows, _, ⟨h, k⟩ => ⟨Nat.le_trans h hB, fun x hx => let ⟨r, h1, h2⟩ := k x hx; ⟨r, up_TI _ _ _ _ E h1, Nat.le_trans h2 hB⟩⟩
  | .covs, _, ⟨h, k⟩ => ⟨Nat.le_trans h (Nat.add_le_add_left hB _), fun x hx => let ⟨r, h1, h2⟩ := k x hx; ⟨r, up_Ent _ _ _ _ E h1, Nat.le_trans h2 hB⟩⟩
  | .cpair _, _, ⟨x, b, h, h1, h2, h3⟩ => ⟨x, b, h, up_LI _ _ _ _ E h1, h2, e _ _ h3 (by intro s z; cases z)⟩
  | .pair, _, ⟨a, b, h, h1, h2⟩ => ⟨a, b, h, e _ _ h1 (by intro s z; cases z), e _ _ h2 (by intro s z; cases z)⟩
  | .level, _, ⟨h, k⟩ => ⟨Nat.le_trans h (Nat.add_le_add_left hB _), fun x hx => let ⟨a, h1, h2⟩ := k x hx; ⟨a, h1, e _ _ h2 (by intro s z; cases z)⟩⟩
  | .levels, _, ⟨h, k⟩ => ⟨Nat.le_trans h hB, fun x hx => let ⟨a, h1, h2⟩ := k x hx; ⟨a, h1, e _ _ h2 (by intro s z; cases z)⟩⟩
  | .cmps, _, ⟨h, k⟩ => ⟨Nat.le_trans h hB, fun x hx => let ⟨r, h1⟩ := k x hx; ⟨r, up_P _ _ _ _ E h1⟩⟩
theorem Sto.up {n B B' : Nat} {Sg : Sig} {G G' M : Hp} (h : Sto n Sg G M B) (E : Same G G') (hB : B ≤ B') : Sto n Sg G' M B' := fun a k e =>
  let ⟨xs, h1, h2⟩ := h a k e
  ⟨xs, h1, okL_up (Ext.refl _) E hB h2⟩
theorem Sto.off {n B : Nat} {Sg : Sig} {G M M' : Hp} (h : Sto n Sg G M B) (e : ∀ b k, Sg b = some k → M' b = M b) : Sto n Sg G M' B := fun a k q =>
  let ⟨xs, h1, h2⟩ := h a k q
  ⟨xs, by rw [e a k q]; exact h1, h2⟩
theorem Sto.rest {n B : Nat} {Sg : Sig} {G M M' : Hp} {R : Addr} (h : Sto n Sg G M B) (e : Off (· = R) M M') (hR : Sg R = none) : Sto n Sg G M' B :=
  h.off fun b k q => e b fun z => by
    have z : b = R := z
    subst z; rw [hR] at q; cases q
def upS (Sg : Sig) (p : Addr) (k : Kd) : Sig := fun b => if b = p then some k else Sg b
theorem upS_same {Sg : Sig} {p : Addr} {k : Kd} : upS Sg p k p = some k := if_pos rfl
theorem upS_ne {Sg : Sig} {p b : Addr} {k : Kd} (h : b ≠ p) : upS Sg p k b = Sg b := if_neg h
theorem Sto.no {n B : Nat} {Sg : Sig} {G M : Hp} {p : Addr} (h : Sto n Sg G M B) (e : M p = none) : Sg p = none := by
  cases q : Sg p with
  | none => rfl
  | some k =>
    obtain ⟨xs, h1, _⟩ := h p k q
    rw [e] at h1
    cases h1
theorem ext_new {Sg : Sig} {p : Addr} {k : Kd} (e : Sg p = none ∨ ∃ s, Sg p = some (.cpair s)) : Ext Sg (upS Sg p k) := fun a q h hn => by
  have hne : a ≠ p := fun z => by
    subst z
    rcases e with e | ⟨s, e⟩
    · rw [e] at h; cases h
    · rw [e] at h; cases h; exact hn s rfl
  rw [upS_ne hne]
  exact h
/-- one list is changed, or new, or a pair of codes becomes a pair -/
theorem Sto.set {n B B' : Nat} {Sg : Sig} {G M M' : Hp} {p : Addr} {k : Kd} {xs : List V} (h : Sto n Sg G M B) (hB : B ≤ B') (e : ∀ b, b ≠ p → M' b = M b) (f : M' p = some (.lst xs)) (hx : Ext Sg (upS Sg p k)) (ok : okL n (upS Sg p k) G B' k xs) : Sto n (upS Sg p k) G M' B' := fun a q hq => by
  by_cases ha : a = p
  · subst ha
    rw [upS_same] at hq
    cases hq
    exact ⟨xs, f, ok⟩
  · rw [upS_ne ha] at hq
    obtain ⟨ys, h1, h2⟩ := h a q hq
    exact ⟨ys, by rw [e a ha]; exact h1, okL_up hx (Same.refl _) hB h2⟩
theorem upS_self {Sg : Sig} {p : Addr} {k : Kd} (h : Sg p = some k) : upS Sg p k = Sg := by
  funext b
  by_cases hb : b = p
  · subst hb; rw [upS_same, h]
  · rw [upS_ne hb]
theorem Sto.chg {n B B' : Nat} {Sg : Sig} {G M M' : Hp} {p : Addr} {k : Kd} {xs : List V} (h : Sto n Sg G M B) (hB : B ≤ B') (e : ∀ b, b ≠ p → M' b = M b) (f : M' p = some (.lst xs)) (hk : Sg p = some k) (ok : okL n Sg G B' k xs) : Sto n Sg G M' B' := by
  have h2 := h.set (k := k) hB e f (by rw [upS_self hk]; exact Ext.refl _) (by rw [upS_self hk]; exact ok)
  rw [upS_self hk] at h2
  exact h2
theorem all2_of {α : Type} {R : α → V → Hp → Prop} {G : Hp} {p : α → Prop} : ∀ xs : List V, (∀ x ∈ xs, ∃ r, R r x G ∧ p r) → ∃ l, All2 R G l xs ∧ ∀ r ∈ l, p r
  | [], _ => ⟨[], All2.nil, fun r h => by cases h⟩
  | x :: xs, h => by
    obtain ⟨r, h1, h2⟩ := h x (List.mem_cons_self ..)
    obtain ⟨l, h3, h4⟩ := all2_of xs fun y hy => h y (List.mem_cons_of_mem _ hy)
    exact ⟨r :: l, All2.cons h1 h3, fun q hq => by
      rcases List.mem_cons.mp hq with rfl | hq
      · exact h2
      · exact h4 q hq⟩
section
variable {K : PySem.W.Frag} {tt : TT} {te : TE} {tl : TE} {vs : List Nat} {σ : L2.St} {H1 G0 M0 : Hp}
/-- a comprehension that looks at what may change later -/
theorem compLs {α : Type} {R : α → V → Hp → Prop} (up : Up R) (l : List (Option α)) {Q : VK} {a : Addr} {xs : List V} {j : Nat} (S : Hs G0 M0 H1) (htl : Gv tl σ H1 (.ref a)) (ha : G0 a = some (.lst xs) ∨ M0 a = some (.lst xs)) (hlen : xs.length = l.length) (hz : l.length < sizeLine)
    (hw : ∀ x, wipe ((wipe σ vs).set j (some x)) vs = wipe σ vs)
    (h1 : ∀ (i : Nat) (x : V) (o : Option α) (G M H : Hp), xs[i]? = some x → l[i]? = some o → Same G0 G → Kept M0 M → Hs G M H → ∀ Q' : Bool → Hp → Prop, (∀ G1 H', Same G G1 → Hs G1 M H' → Q' o.isSome H') → tt ((wipe σ vs).set j (some x)) H Q')
    (h2 : ∀ (i : Nat) (x : V) (y : α) (G M H : Hp), xs[i]? = some x → l[i]? = some (some y) → Same G0 G → Kept M0 M → Hs G M H → ∀ Q' : VK, (∀ v G2 H2, Same G G2 → Hs G2 M H2 → R y v G2 → Q' v H2) → te ((wipe σ vs).set j (some x)) H Q')
    (k : ∀ p acc G M H, Same G0 G → (∀ b, b ≠ p → M b = M0 b) → M0 p = none → Hs G M H → M p = some (.lst acc) → All2 R G (l.filterMap id) acc → Q (.ref p) H) :
    tLc (iList K tl) (gName j) tt te vs σ H1 Q := by
  have kp : ∀ {D : Addr} {i : Nat} {G M : Hp} {acc : List V}, Im R l G0 M0 i G (del M D) acc → Kept M0 M := fun {D i G M acc} h b o hb => by
    have e := h.2.1 b
    rw [hb] at e
    have hn : b ≠ D := fun z => by subst z; rw [del_same] at e; cases e
    rw [del_ne hn] at e
    exact e
  refine leafLM (Im R l G0 M0) S htl im_start (fun i D G M H acc S _ h => ?_) (ha.elim (S.g _ _) (S.m _ _))
    (fun i D x G M H acc hx S hm h => by
      have hi : i < l.length := by rw [← hlen]; exact (List.getElem?_eq_some_iff.mp hx).1
      have ho : l[i]? = some l[i] := List.getElem?_eq_getElem hi
      exact step_m up hz ho S hm h (hw x) (h1 i x _ G M H hx ho h.1 (kp h) S) fun y ey G1 H' E1 S1 => h2 i x y G1 M H' hx (by rw [ho, ey]) (h.1.trans E1) (kp h) S1)
    (done_mM hlen k)
  rcases ha with ha | ha
  · exact S.g _ _ (h.1 _ _ ha)
  · exact S.m _ _ (kp h _ _ ha)
end
section
variable {P : Program} {w : World} {K : PySem.W.Frag} {mg : Str → Option Value} {base : Heap}
def sp_l_frozen : Sp := fun vs H Q _ => ∃ (G M : Hp) (la : Addr) (n : Nat) (Sg : Sig) (B : Nat), Hs G M H ∧ vs = [.ref la] ∧ Sto n Sg G M B ∧ Sg la = some .levels ∧ B ≤ 1000 ∧
  ∀ v G' H' ls, Same G G' → Hs G' M H' → rT rLv ls v G' → (∀ l ∈ ls, LvOk l) → ls.length ≤ 1000 → Q v H'
theorem ok_l_frozen (T : Bt mg) (F : Dfn K mg "_law_frozen" s_l_frozen) : Has P w K mg base 1 "_law_frozen" ["_law_levels"] sp_l_frozen := by
  refine F.ok sc_l_frozen (fun _ _ _ _ _ _ us hl => match us, hl with | [_], _ => rfl) (fun vs H Q E h => by obtain ⟨_, _, _, _, _, _, _, rfl, _⟩ := h; rfl) (fun f cdv A outer s H vs Q E hr h => ?_)
  obtain ⟨G, M, la, n, Sg, B, S, rfl, st, hla, hB, k⟩ := h
  obtain ⟨xs, hxs, hxl, hxe⟩ := st la _ hla
  refine ⟨_, (pss_cons (ps_set (i := 1) sc_l_frozen.nd rfl (Or.inl rfl) (pe_lst pa_nil))
    (pss_cons (ps_for PassesOwn.never rfl (piL K (pv 0)) (pg_name (i := 2) sc_l_frozen.nd rfl (Or.inl rfl))
     (pss_one (ps_expr (pe_bm PySem.F.plainAttrs_list PySem.F.slot_list_append PySem.F.type_list_append mt_append (pv 1) (pa_cons (pe_callTy (tupO K) (by rfl) T.tuple (by decide +kernel) (pa_cons (pe_lc (own := [("_law_pair", 3)]) rfl sc_l_frozen.nd (piL K (pv 2)) (blkOk_by (N := ["_law_levels", "_law_told_here", "_law_level", "_law_pair"]) (sc := defScope s_l_frozen) (by decide +kernel)) (fun _ _ _ _ _ => (pg_name (i := 3) sc_l_frozen.nd rfl (Or.inl rfl))) (fun _ _ _ _ _ => pts_nil) (fun _ _ _ _ _ => (pe_tup (pa_cons (pe_callTy (tupO K) (by rfl) T.tuple (by decide +kernel) (pa_cons (pe_ix (ixL K) (pv 3) pe_int (fun _ _ => rfl)) pa_nil)) (pa_cons (pe_callTy (tupO K) (by rfl) T.tuple (by decide +kernel) (pa_cons (pe_ix (ixL K) (pv 3) pe_int (fun _ _ => rfl)) pa_nil)) pa_nil))))) pa_nil)) pa_nil)))))
    (pss_one (ps_ret (pe_callTy (tupO K) (by rfl) T.tuple (by decide +kernel) (pa_cons (pv 1) pa_nil)))))), ?_⟩
  walk_at "rd"
  refine al_lstM S (by walk_at "gv") (by simp) (fun pt M1 H1 e1 S1 f1 n1 _ => ?_)
  have kp1 : Kept M M1 := (Kept.refl M).chg e1 n1
  walk_at "rd"
  refine loopL xs (fun i σ G' M' => ∃ z1 z2 acc ls, σ = [some (.ref la), some (.ref pt), z1, z2] ∧ Same G G' ∧ Kept M M' ∧ M' pt = some (.lst acc) ∧ All2 rLv G' ls acc ∧ ls.length = i ∧ ∀ l ∈ ls, LvOk l) S1 (by walk_at "gv")
    ⟨_, _, [], [], rfl, Same.refl _, kp1, f1, All2.nil, rfl, fun l hl => by cases hl⟩ (fun i σ G' M' hI H' S' => ?_) (fun i x3 σ G' M' H' hx3 hI S' => ?_) (fun σ G' M' H' hI S' => ?_)
  · obtain ⟨_, _, _, _, rfl, E', kp, _⟩ := hI
    exact S'.m _ _ (kp _ _ hxs)
  · obtain ⟨z1, z2, acc, ls, rfl, E', kp, f', al', hll, hlv⟩ := hI
    obtain ⟨a, rfl, hsa⟩ := hxe _ (List.mem_of_getElem? hx3)
    obtain ⟨ys, hys, hyl, hye⟩ := st a _ hsa
    have hi : i < xs.length := (List.getElem?_eq_some_iff.mp hx3).1
    have hal := al'.len
    walk_at "rd"
    refine ⟨ty_lst (S'.m _ _ f'), ?_⟩
    walk_at "rd"
    -- what each pair tells
    have hpt : ∀ x ∈ ys, ∃ (p : Addr) (q1 q2 : Addr) (rs cs : List V), x = .ref p ∧ M' p = some (.lst [.ref q1, .ref q2]) ∧ M' q1 = some (.lst rs) ∧ M' q2 = some (.lst cs) ∧ okL n Sg G B .rows rs ∧ okL n Sg G B .covs cs := fun x hx => by
      obtain ⟨p, rfl, hp⟩ := hye x hx
      obtain ⟨_, h1, q1, q2, rfl, h2, h3⟩ := st p _ hp
      obtain ⟨rs, h4, h5⟩ := st q1 _ h2
      obtain ⟨cs, h6, h7⟩ := st q2 _ h3
      exact ⟨p, q1, q2, rs, cs, rfl, kp _ _ h1, kp _ _ h4, kp _ _ h6, h5, h7⟩
    have hpts : ∀ x ∈ ys, ∃ pt : Pt, (∃ (p : Addr) (q1 q2 : Addr) (rs cs : List V), x = .ref p ∧ M' p = some (.lst [.ref q1, .ref q2]) ∧ M' q1 = some (.lst rs) ∧ M' q2 = some (.lst cs) ∧ All2 rTI G pt.1 rs ∧ All2 rEnt G pt.2 cs) ∧ PtOk pt := fun x hx => by
      obtain ⟨p, q1, q2, rs, cs, e1, h1, h2, h3, ⟨r1, r2⟩, c1, c2⟩ := hpt x hx
      obtain ⟨l1, h4, h5⟩ := all2_of rs r2
      obtain ⟨l2, h6, h7⟩ := all2_of cs c2
      have := h4.len
      exact ⟨(l1, l2), ⟨p, q1, q2, rs, cs, e1, h1, h2, h3, h4, h6⟩, by dsimp only; omega, fun r hr => by have := h5 r hr; omega, fun e he => by have := h7 e he; omega⟩
    obtain ⟨pl, hpl, hpok⟩ := all2_of (R := fun (pt : Pt) x _ => ∃ (p : Addr) (q1 q2 : Addr) (rs cs : List V), x = .ref p ∧ M' p = some (.lst [.ref q1, .ref q2]) ∧ M' q1 = some (.lst rs) ∧ M' q2 = some (.lst cs) ∧ All2 rTI G pt.1 rs ∧ All2 rEnt G pt.2 cs) (G := G') ys hpts
    have hpll := hpl.len
    refine compLs up_Pt (pl.map some) S' (by walk_at "gv") (.inr (kp _ _ hys)) (by simp [hpll]) (by simp [sizeLine_eq]; omega) (by intro _; rfl) (fun i1 x1 o G4 M4 H4 hx1 ho E4 kp4 S4 Q' kk => ?_) (fun i1 x1 y1 G4 M4 H4 hx1 ho E4 kp4 S4 Q' kk => ?_) (fun p acc4 G4 M4 H4 E4 e4 n4 S4 f4 al4 => ?_)
    · exact yes_all (xs := ys) i1 x1 o G4 M4 H4 hx1 ho (Same.refl G4) S4 Q' kk
    · have ey := some_at ho
      obtain ⟨pt', ept, p, q1, q2, rs, cs, rfl, h1, h2, h3, h4, h5⟩ := hpl.at hx1
      rw [ept] at ey
      cases ey
      have g1 := kp4 _ _ h1
      have g2 := kp4 _ _ h2
      have g3 := kp4 _ _ h3
      have hp0 : atI [V.ref q1, V.ref q2] 0 = some (.ref q1) := rfl
      have hp1 : atI [V.ref q1, V.ref q2] 1 = some (.ref q2) := rfl
      walk_at "rd"
      apply rd_tup
      walk_at "rd"
      refine al_tpL S4 (S4.m _ _ g2) (fun t1 G5 H5 E5 S5 f5 => ?_)
      walk_at "rd"
      refine al_tpL S5 (S5.m _ _ g3) (fun t2 G6 H6 E6 S6 f6 => ?_)
      walk_at "rd"
      refine ⟨by simp [sizeLine_eq], fun t3 ht3 => ?_⟩
      obtain ⟨G7, E7, S7, f7⟩ := S6.addG (o := .tup [.ref t1, .ref t2]) ht3
      have E07 := ((E'.trans E4).trans (E5.trans E6)).trans E7
      exact kk _ G7 _ ((E5.trans E6).trans E7) S7 ⟨t3, _, _, rfl, f7, ⟨t1, rs, rfl, E7 _ _ (E6 _ _ f5), h4.up up_TI E07⟩, ⟨t2, cs, rfl, E7 _ _ f6, h5.up up_Ent E07⟩⟩
    · rw [filt_some] at al4
      walk_at "rd"
      refine al_tpL S4 (S4.m _ _ f4) (fun t1 G5 H5 E5 S5 f5 => ?_)
      obtain ⟨G6, E6, S6, f6⟩ := S5.drop f4 e4 n4
      walk_at "rd"
      refine rd_appM S6 f' (by rw [sizeLine_eq]; omega) (fun M7 H7 e7 S7 f7 => ?_)
      have E46 := (E4.trans E5).trans E6
      refine ⟨_, _, S7, _, _, acc ++ [.ref t1], ls ++ [pl], rfl, E'.trans E46, kp.chg e7 n1, f7, (al'.up up_Lv E46).snoc ⟨t1, acc4, rfl, E6 _ _ f5, al4.up up_Pt (E5.trans E6)⟩, by rw [List.length_append, hll]; rfl, fun l hl => ?_⟩
      rcases List.mem_append.mp hl with hl | hl
      · exact hlv l hl
      · have := List.mem_singleton.mp hl
        subst this
        exact hpok
  · obtain ⟨z1, z2, acc, ls, rfl, E', kp, f', al', hll, hlv⟩ := hI
    walk_at "rd"
    refine al_tpL S' (S'.m _ _ f') (fun l G2 H2 E2 S2 f2 => ?_)
    obtain ⟨G3, E3, S3, _⟩ := S2.dropAll kp
    exact k _ G3 H2 ls ((E'.trans E2).trans E3) S3 ⟨l, acc, rfl, E3 _ _ f2, al'.up up_Lv (E2.trans E3)⟩ hlv (by omega)
end
end N
/-! LN: the law: changes of comparers, states, covers -/
namespace N
open PySem L2
section
variable {K : PySem.W.Frag} {G M H : Hp} {Q : VK}
theorem rd_insM {a : Addr} {xs : List V} {y : V} {i : Int} (S : Hs G M H) (h : M a = some (.lst xs)) (hz : xs.length < sizeLine) (h0 : 0 ≤ i) (h1 : i < 2 ^ 63) (q : ∀ M1 H1, (∀ b, b ≠ a → M1 b = M b) → Hs G M1 H1 → M1 a = some (.lst (xs.take i.toNat ++ [y] ++ xs.drop i.toNat)) → Q .non H1) :
    ∃ (l : Addr) (xs : List V) (i' : Int) (y' : V), V.ref a = .ref l ∧ [V.int i, y] = [.int i', y'] ∧ H l = some (.lst xs) ∧ xs.length < sizeLine ∧ 0 ≤ i' ∧ i' < 2 ^ 63 ∧ Q .non (upd H l (.lst (xs.take i'.toNat ++ [y'] ++ xs.drop i'.toNat))) :=
  ⟨a, xs, i, y, rfl, rfl, S.m _ _ h, hz, h0, h1, q _ _ (fun b hb => upd_ne hb) (S.mut h) upd_same⟩
theorem rd_popM {a : Addr} {xs : List V} {i : Int} (S : Hs G M H) (h : M a = some (.lst xs)) (h0 : 0 ≤ i) (h1 : i < xs.length) (hz : xs.length < 2 ^ 62) (q : ∀ y M1 H1, xs[i.toNat]? = some y → (∀ b, b ≠ a → M1 b = M b) → Hs G M1 H1 → M1 a = some (.lst (xs.eraseIdx i.toNat)) → Q y H1) : rPopAt (.ref a) [.int i] H Q := by
  have hi : i.toNat < xs.length := by omega
  refine ⟨a, xs, i, i.toNat, xs[i.toNat], rfl, rfl, S.m _ _ h, by omega, by omega, ?_, List.getElem?_eq_getElem hi, q _ _ _ (List.getElem?_eq_getElem hi) (fun b hb => upd_ne hb) (S.mut h) upd_same⟩
  have hn : ¬ i < 0 := by omega
  simp [seqIndex?, hn, h0, h1]
end
theorem ins_len {α : Type} (xs : List α) (y : α) (i : Nat) : (xs.take i ++ [y] ++ xs.drop i).length = xs.length + 1 := by
  simp only [List.length_append, List.length_take, List.length_drop, List.length_singleton]
  omega
theorem ins_all {α : Type} {p : α → Prop} {xs : List α} {y : α} (i : Nat) (h : ∀ x ∈ xs, p x) (hy : p y) : ∀ x ∈ xs.take i ++ [y] ++ xs.drop i, p x := fun x hx => by
  rcases List.mem_append.mp hx with hx | hx
  · rcases List.mem_append.mp hx with hx | hx
    · exact h x (List.mem_of_mem_take hx)
    · rw [List.mem_singleton.mp hx]; exact hy
  · exact h x (List.mem_of_mem_drop hx)
theorem set_all {α : Type} {p : α → Prop} {xs : List α} {y : α} (i : Nat) (h : ∀ x ∈ xs, p x) (hy : p y) : ∀ x ∈ xs.set i y, p x := fun x hx => by
  rcases List.mem_or_eq_of_mem_set hx with h1 | h1
  · exact h x h1
  · rw [h1]; exact hy
theorem del_all {α : Type} {p : α → Prop} {xs : List α} (i : Nat) (h : ∀ x ∈ xs, p x) : ∀ x ∈ xs.eraseIdx i, p x := fun x hx => h x (List.mem_of_mem_eraseIdx hx)
theorem erase_le {α : Type} (xs : List α) (i : Nat) : (xs.eraseIdx i).length ≤ xs.length := List.length_eraseIdx_le ..
theorem at_mem {xs : List V} {i : Int} (h0 : 0 ≤ i) (h1 : i < xs.length) : ∃ y, atI xs i = some y ∧ xs[i.toNat]? = some y ∧ y ∈ xs := by
  have hi : i.toNat < xs.length := by omega
  exact ⟨_, at_of (by omega) (List.getElem?_eq_getElem hi), List.getElem?_eq_getElem hi, List.getElem_mem hi⟩
def Frame (Sg Sg' : Sig) (R : Addr) (M M' : Hp) : Prop := ∀ b o, Sg b = none → b ≠ R → M b = some o → M' b = some o ∧ Sg' b = none
def stoSp {α : Type} (pre : α → Nat → Sig → Addr → List V → Prop) : Sp := fun vs H Q _ => ∃ (G M : Hp) (R : Addr) (n : Nat) (Sg : Sig) (B : Nat) (x : α), Hs G M H ∧ Rest M R ∧ Sg R = none ∧ Sto n Sg G M B ∧ 16 ≤ B ∧ B ≤ 900 ∧ pre x n Sg R vs ∧
  ∀ G' M' H' Sg', Same G G' → Hs G' M' H' → Rest M' R → Sg' R = none → Ext Sg Sg' → Frame Sg Sg' R M M' → Sto n Sg' G' M' (B + 1) → Q .non H'
theorem sto_fin {n B : Nat} {Sg : Sig} {G G' M M' M'' : Hp} {R a : Addr} {kd : Kd} {ys : List V} (st : Sto n Sg G M B) (hR : Sg R = none) (hk : Sg a = some kd) (E : Same G G') (O : Off (· = R) M M') (hR' : Rest M' R) (e : ∀ b, b ≠ a → M'' b = M' b) (f : M'' a = some (.lst ys)) (ok : okL n Sg G' (B + 1) kd ys) :
    Rest M'' R ∧ Frame Sg Sg R M M'' ∧ Sto n Sg G' M'' (B + 1) := by
  have hne : a ≠ R := fun z => by subst z; rw [hR] at hk; cases hk
  refine ⟨rest_set hR' e hne, fun b o h1 h2 h3 => ⟨?_, h1⟩, ((st.rest O hR).up E (Nat.le_refl _)).chg (Nat.le_succ _) e f hk ok⟩
  have hb : b ≠ a := fun z => by subst z; rw [hk] at h1; cases h1
  rw [e b hb, O b h2]
  exact h3
section
variable {P : Program} {w : World} {K : PySem.W.Frag} {mg : Str → Option Value} {base : Heap}
def sp_l_change_comparers : Sp := stoSp (fun (x : Addr × Nat) _ Sg R vs => vs = [.ref x.1, .int (x.2 : Int), .ref R] ∧ Sg x.1 = some .cmps ∧ x.2 ≤ 8)
theorem ok_l_change_comparers (T : Bt mg) (F : Dfn K mg "_law_change_comparers" s_l_change_comparers) (h_l_draw : Has P w K mg base 1 "_law_draw" ["_law_rest", "_law_limit"] sp_l_draw) (h_l_value : Has P w K mg base 2 "_law_value" ["_law_rest", "_law_wires"] sp_l_value) :
    Has P w K mg base 3 "_law_change_comparers" ["_law_comparers_here", "_law_wires", "_law_rest"] sp_l_change_comparers := by
  refine F.ok sc_l_change_comparers (fun _ _ _ _ _ _ us hl => match us, hl with | [_, _, _], _ => rfl) (fun vs H Q E h => by obtain ⟨_, _, _, _, _, _, _, _, _, _, _, _, _, ⟨rfl, _⟩, _⟩ := h; rfl) (fun f cdv A outer s H vs Q E hr h => ?_)
  obtain ⟨G, M, R, n, Sg, B, ⟨ca, wn⟩, S, hR, hSR, st, hB, hB9, ⟨rfl, hca, hwn⟩, k⟩ := h
  dsimp only at hca hwn
  obtain ⟨xs, hxs, hxl, hxe⟩ := st ca _ hca
  have hne : ca ≠ R := fun z => by subst z; rw [hSR] at hca; cases hca
  refine ⟨_, (pss_cons (ps_set (i := 3) sc_l_change_comparers.nd rfl (Or.inl rfl) (pe_fn h_l_draw hr (pa_cons (pv 2) (pa_cons pe_int pa_nil))))
    (pss_cons (ps_set (i := 4) sc_l_change_comparers.nd rfl (Or.inl rfl) (pe_fn h_l_draw hr (pa_cons (pv 2) (pa_cons (pe_op op_add (pe_callB (lenS K) (by rfl) T.len PySem.boot_len (pa_cons (pv 0) pa_nil)) pe_int) pa_nil))))
    (pss_one (ps_if (PW.pt (pw_or (pt_cmpR op_eq (pv 3) pe_int (nomark _)) (pw_or1 (pt_cmpR op_eq (pv 4) (pe_callB (lenS K) (by rfl) T.len PySem.boot_len (pa_cons (pv 0) pa_nil)) (nomark _)))))
     (pss_one (ps_expr (pe_bm PySem.F.plainAttrs_list PySem.F.slot_list_insert PySem.F.type_list_insert mt_insert (pv 0) (pa_cons (pv 4) (pa_cons (pe_tup (pa_cons (pe_fn h_l_value hr (pa_cons (pv 2) (pa_cons (pv 1) pa_nil))) (pa_cons (pe_fn h_l_value hr (pa_cons (pv 2) (pa_cons (pv 1) pa_nil))) pa_nil))) pa_nil)))))
     (pss_one (ps_if (pt_cmpR op_eq (pv 3) pe_int (nomark _))
      (pss_one (ps_expr (pe_bm PySem.F.plainAttrs_list PySem.F.slot_list_pop PySem.F.type_list_pop mt_popAt (pv 0) (pa_cons (pv 4) pa_nil))))
      (pss_one (ps_if (pt_cmpR op_eq (pv 3) pe_int (nomark _))
       (pss_one (ps_asg (pe_tup (pa_cons (pe_fn h_l_value hr (pa_cons (pv 2) (pa_cons (pv 1) pa_nil))) (pa_cons (pe_ix (ixT K) (pe_ix (ixL K) (pv 0) (pv 4) (fun _ _ => rfl)) pe_int (fun _ _ => rfl)) pa_nil))) (pg_sub (pv 0) (pv 4) set_list)))
       (pss_one (ps_if (pt_cmpR op_eq (pv 3) pe_int (nomark _))
        (pss_one (ps_asg (pe_tup (pa_cons (pe_ix (ixT K) (pe_ix (ixL K) (pv 0) (pv 4) (fun _ _ => rfl)) pe_int (fun _ _ => rfl)) (pa_cons (pe_fn h_l_value hr (pa_cons (pv 2) (pa_cons (pv 1) pa_nil))) pa_nil))) (pg_sub (pv 0) (pv 4) set_list)))
        (pss_one (ps_expr (pe_bm PySem.F.plainAttrs_list PySem.F.slot_list_insert PySem.F.type_list_insert mt_insert (pv 0) (pa_cons pe_int (pa_cons (pe_bm PySem.F.plainAttrs_list PySem.F.slot_list_pop PySem.F.type_list_pop mt_popAt (pv 0) (pa_cons (pv 4) pa_nil)) pa_nil))))))))))))))), ?_⟩
  walk_at "rd"
  refine ⟨G, M, R, 5, S, hR, ⟨_, _, rfl, rfl, rfl, by decide⟩, fun v G1 M1 H1 E1 O1 R1 S1 ⟨c, ec, c0, c1⟩ => ?_⟩
  subst ec
  have f1 : M1 ca = some (.lst xs) := by rw [O1 _ hne]; exact hxs
  walk_at "rd"
  refine ⟨G1, M1, R, xs.length + 1, S1, R1, ⟨_, _, rfl, rfl, rfl, by omega⟩, fun v G2 M2 H2 E2 O2 R2 S2 ⟨d, ed, d0, d1⟩ => ?_⟩
  subst ed
  have f2 : M2 ca = some (.lst xs) := by rw [O2 _ hne]; exact f1
  have O12 := off_trans O1 O2
  have E12 := E1.trans E2
  have fin : ∀ (G' M' M'' H'' : Hp) (ys : List V), Same G G' → Off (· = R) M M' → Rest M' R → (∀ b, b ≠ ca → M'' b = M' b) → Hs G' M'' H'' → M'' ca = some (.lst ys) → okL n Sg G' (B + 1) .cmps ys → Q .non H'' := fun G' M' M'' H'' ys E O hR' e S'' f ok => by
    obtain ⟨h1, h2, h3⟩ := sto_fin st hSR hca E O hR' e f ok
    exact k G' M'' H'' Sg E S'' h1 hSR (Ext.refl _) h2 h3
  have oke : ∀ G', Same G G' → ∀ x ∈ xs, ∃ c : Cp, rP c x G' := fun G' E x hx => let ⟨c, h⟩ := hxe x hx; ⟨c, up_P _ _ _ _ E h⟩
  walk_at "rd"
  refine rd_ite (fun h0 => ?ca) (fun h0 => ?cb)
  case' cb =>
    walk_at "rd"
    refine rd_ite (fun h0 => ?ca2) (fun h0b => ?cc)
  case ca =>
    refine iteT ?_
    walk_at "rd"
    refine ⟨ty_lst (S2.m _ _ f2), ?_⟩
    walk_at "rd"
    apply rd_tup
    walk_at "rd"
    refine ⟨G2, M2, R, wn, S2, R2, ⟨_, _, rfl, rfl, rfl, by omega⟩, fun v G3 M3 H3 E3 O3 R3 S3 ⟨i1, ei1⟩ => ?_⟩
    subst ei1
    walk_at "rd"
    refine ⟨G3, M3, R, wn, S3, R3, ⟨_, _, rfl, rfl, rfl, by omega⟩, fun v G4 M4 H4 E4 O4 R4 S4 ⟨i2, ei2⟩ => ?_⟩
    subst ei2
    walk_at "rd"
    refine ⟨by simp [sizeLine_eq], fun t ht => ?_⟩
    obtain ⟨G5, E5, S5, f5⟩ := S4.addG (o := .tup [.int i1, .int i2]) ht
    have f4 : M4 ca = some (.lst xs) := by rw [O4 _ hne, O3 _ hne]; exact f2
    walk_at "rd"
    refine rd_insM S5 f4 (by rw [sizeLine_eq]; omega) d0 (by omega) (fun M6 H6 e6 S6 f6 => ?_)
    have E05 := ((E12.trans E3).trans E4).trans E5
    exact fin G5 M4 M6 H6 _ E05 (off_trans (off_trans O12 O3) O4) R4 e6 S6 f6 ⟨by rw [ins_len]; omega, ins_all _ (oke _ E05) ⟨(i1, i2), t, _, _, rfl, f5, rfl, rfl⟩⟩
  case ca2 =>
    walk_at "rd"
    refine ⟨ty_lst (S2.m _ _ f2), ?_⟩
    walk_at "rd"
    apply rd_tup
    walk_at "rd"
    refine ⟨G2, M2, R, wn, S2, R2, ⟨_, _, rfl, rfl, rfl, by omega⟩, fun v G3 M3 H3 E3 O3 R3 S3 ⟨i1, ei1⟩ => ?_⟩
    subst ei1
    walk_at "rd"
    refine ⟨G3, M3, R, wn, S3, R3, ⟨_, _, rfl, rfl, rfl, by omega⟩, fun v G4 M4 H4 E4 O4 R4 S4 ⟨i2, ei2⟩ => ?_⟩
    subst ei2
    walk_at "rd"
    refine ⟨by simp [sizeLine_eq], fun t ht => ?_⟩
    obtain ⟨G5, E5, S5, f5⟩ := S4.addG (o := .tup [.int i1, .int i2]) ht
    have f4 : M4 ca = some (.lst xs) := by rw [O4 _ hne, O3 _ hne]; exact f2
    walk_at "rd"
    refine rd_insM S5 f4 (by rw [sizeLine_eq]; omega) d0 (by omega) (fun M6 H6 e6 S6 f6 => ?_)
    have E05 := ((E12.trans E3).trans E4).trans E5
    exact fin G5 M4 M6 H6 _ E05 (off_trans (off_trans O12 O3) O4) R4 e6 S6 f6 ⟨by rw [ins_len]; omega, ins_all _ (oke _ E05) ⟨(i1, i2), t, _, _, rfl, f5, rfl, rfl⟩⟩
  have hlt : d < xs.length := by omega
  obtain ⟨y, hay, hgy, hmy⟩ := at_mem d0 hlt
  obtain ⟨cp, hcp⟩ := oke _ E12 y hmy
  obtain ⟨ta, rfl, hta⟩ := rP_ti hcp
  have hp0 : atI ([cp.1, cp.2].map V.int) 0 = some (.int cp.1) := rfl
  have hp1 : atI ([cp.1, cp.2].map V.int) 1 = some (.int cp.2) := rfl
  walk_at "rd"
  refine rd_ite (fun h1 => ?_) (fun h1 => ?_)
  · walk_at "rd"
    refine ⟨ty_lst (S2.m _ _ f2), ?_⟩
    walk_at "rd"
    refine rd_popM S2 f2 d0 hlt (by omega) (fun y M3 H3 hy e3 S3 f3 => ?_)
    exact fin G2 M2 M3 H3 _ E12 O12 R2 e3 S3 f3 ⟨Nat.le_trans (erase_le _ _) (by omega), del_all _ (oke _ E12)⟩
  walk_at "rd"
  refine rd_ite (fun h2 => ?_) (fun h2 => ?_)
  · walk_at "rd"
    apply rd_tup
    walk_at "rd"
    refine ⟨G2, M2, R, wn, S2, R2, ⟨_, _, rfl, rfl, rfl, by omega⟩, fun v G3 M3 H3 E3 O3 R3 S3 ⟨i1, ei1⟩ => ?_⟩
    subst ei1
    have f3 : M3 ca = some (.lst xs) := by rw [O3 _ hne]; exact f2
    walk_at "rd"
    refine ⟨by simp [sizeLine_eq], fun t ht => ?_⟩
    obtain ⟨G5, E5, S5, f5⟩ := S3.addG (o := .tup [.int i1, .int cp.2]) ht
    walk_at "rd"
    refine rd_setM S5 f3 (ixN_of (j := d.toNat) (by omega) (by omega)) (fun M6 H6 e6 S6 f6 => ?_)
    have E05 := (E12.trans E3).trans E5
    exact fin G5 M3 M6 H6 _ E05 (off_trans O12 O3) R3 e6 S6 f6 ⟨by rw [List.length_set]; omega, set_all _ (oke _ E05) ⟨(i1, cp.2), t, _, _, rfl, f5, rfl, rfl⟩⟩
  walk_at "rd"
  refine rd_ite (fun h3 => ?_) (fun h3 => ?_)
  · walk_at "rd"
    apply rd_tup
    walk_at "rd"
    refine ⟨G2, M2, R, wn, S2, R2, ⟨_, _, rfl, rfl, rfl, by omega⟩, fun v G3 M3 H3 E3 O3 R3 S3 ⟨i1, ei1⟩ => ?_⟩
    subst ei1
    have f3 : M3 ca = some (.lst xs) := by rw [O3 _ hne]; exact f2
    walk_at "rd"
    refine ⟨by simp [sizeLine_eq], fun t ht => ?_⟩
    obtain ⟨G5, E5, S5, f5⟩ := S3.addG (o := .tup [.int cp.1, .int i1]) ht
    walk_at "rd"
    refine rd_setM S5 f3 (ixN_of (j := d.toNat) (by omega) (by omega)) (fun M6 H6 e6 S6 f6 => ?_)
    have E05 := (E12.trans E3).trans E5
    exact fin G5 M3 M6 H6 _ E05 (off_trans O12 O3) R3 e6 S6 f6 ⟨by rw [List.length_set]; omega, set_all _ (oke _ E05) ⟨(cp.1, i1), t, _, _, rfl, f5, rfl, rfl⟩⟩
  walk_at "rd"
  refine ⟨ty_lst (S2.m _ _ f2), ?_⟩
  walk_at "rd"
  refine ⟨ty_lst (S2.m _ _ f2), ?_⟩
  walk_at "rd"
  refine rd_popM S2 f2 d0 hlt (by omega) (fun y M3 H3 hy e3 S3 f3 => ?_)
  walk_at "rd"
  refine rd_insM S3 f3 (by have := erase_le xs d.toNat; rw [sizeLine_eq]; omega) (by decide) (by decide) (fun M6 H6 e6 S6 f6 => ?_)
  exact fin G2 M2 M6 H6 _ E12 O12 R2 (fun b hb => (e6 b hb).trans (e3 b hb)) S6 f6 ⟨by have := erase_le xs d.toNat; rw [ins_len]; omega, ins_all _ (del_all _ (oke _ E12)) (oke _ E12 _ (List.mem_of_getElem? hy))⟩
end
end N
/-! LO: the law: changes of states, of covers -/
namespace N
open PySem L2
section
variable {K : PySem.W.Frag} {te : TE} {ta : TA} {vs : List Nat} {σ : L2.St} {H1 G0 M0 : Hp}
/-- a comprehension over a range that draws -/
theorem compD {α : Type} {Rl : α → V → Hp → Prop} (up : Up Rl) {Q : VK} {n j : Nat} {R : Addr} (S : Hs G0 M0 H1) (hta : GvA ta σ H1 [.int (n : Int)]) (hn : n ≤ 1000) (hR : Rest M0 R)
    (hw : ∀ x, wipe ((wipe σ vs).set j (some x)) vs = wipe σ vs)
    (h2 : ∀ (i : Nat) (G M H : Hp), i < n → Same G0 G → Rest M R → Hs G M H → ∀ Q' : VK, (∀ v x G2 M2 H2, Same G G2 → Off (· = R) M M2 → Rest M2 R → Hs G2 M2 H2 → Rl x v G2 → Q' v H2) → te ((wipe σ vs).set j (some (.int ((i : Nat) : Int)))) H Q')
    (k : ∀ p acc l G M H, Same G0 G → (∀ b, b ≠ p → b ≠ R → M b = M0 b) → M0 p = none → Rest M R → Hs G M H → M p = some (.lst acc) → All2 Rl G l acc → l.length = n → Q (.ref p) H) :
    tLc (iRng1 ta) (gName j) tYes te vs σ H1 Q := by
  refine leafRM (fun i G M acc => Same G0 G ∧ (∀ b, b ≠ R → M b = M0 b) ∧ Rest M R ∧ ∃ l, All2 Rl G l acc ∧ l.length = i) S hta (by omega) ⟨Same.refl _, fun _ _ => rfl, hR, [], All2.nil, rfl⟩ (fun i D G M H acc hi S hm h => ?_) (fun p G M acc H h S hm => ?_)
  · obtain ⟨E, e, ⟨ns, hns⟩, l, al, hl⟩ := h
    have hDR : R ≠ D := fun z => by subst z; rw [del_same] at hns; cases hns
    rw [del_ne hDR] at hns
    refine ⟨hw _, h2 i G M H hi E ⟨ns, hns⟩ S _ fun v x G2 M2 H2 E2 O2 ⟨ns2, hns2⟩ S2 hx => ?_⟩
    have hm2 : M2 D = some (.lst acc) := by rw [O2 _ hDR.symm]; exact hm
    refine ⟨acc, S2.m _ _ hm2, by rw [al.len, hl, sizeLine_eq]; omega, nc_push S2 hm2 ⟨E.trans E2, fun b hb => ?_, ⟨ns2, by rw [del_ne hDR]; exact hns2⟩, l ++ [x], (al.up up E2).snoc hx, by rw [List.length_append, hl]; rfl⟩⟩
    by_cases hbD : b = D
    · subst hbD
      rw [del_same]
      have := e b hb
      rw [del_same] at this
      exact this
    · rw [del_ne hbD, O2 b hb]
      have := e b hb
      rw [del_ne hbD] at this
      exact this
  · obtain ⟨E, e, ⟨ns, hns⟩, l, al, hl⟩ := h
    have hDR : R ≠ p := fun z => by subst z; rw [del_same] at hns; cases hns
    rw [del_ne hDR] at hns
    refine k p acc l G M H E (fun b h1 h2 => by rw [← e b h2, del_ne h1]) (by rw [← e p hDR.symm, del_same]) ⟨ns, hns⟩ S hm al hl
end
section
variable {P : Program} {w : World} {K : PySem.W.Frag} {mg : Str → Option Value} {base : Heap}
theorem cut1 {xs : List V} : cutV xs (some 1) none = xs.drop 1 := by
  have h1 : HT.sIx xs.length 0 (some 1) = min 1 xs.length := by simp [HT.sIx]
  unfold cutV
  rw [h1, HT.sIx_none]
  cases xs with
  | nil => rfl
  | cons x xs => simp
def sp_l_change_state : Sp := stoSp (fun (x : Addr × Nat) _ Sg R vs => vs = [.ref x.1, .int (x.2 : Int), .ref R] ∧ Sg x.1 = some .rows ∧ 1 ≤ x.2 ∧ x.2 ≤ 8)
theorem ok_l_change_state (T : Bt mg) (F : Dfn K mg "_law_change_state" s_l_change_state) (h_l_draw : Has P w K mg base 1 "_law_draw" ["_law_rest", "_law_limit"] sp_l_draw) (h_l_value : Has P w K mg base 2 "_law_value" ["_law_rest", "_law_wires"] sp_l_value) :
    Has P w K mg base 3 "_law_change_state" ["_law_rows_here", "_law_wires", "_law_rest"] sp_l_change_state := by
  refine F.ok sc_l_change_state (fun _ _ _ _ _ _ us hl => match us, hl with | [_, _, _], _ => rfl) (fun vs H Q E h => by obtain ⟨_, _, _, _, _, _, _, _, _, _, _, _, _, ⟨rfl, _⟩, _⟩ := h; rfl) (fun f cdv A outer s H vs Q E hr h => ?_)
  obtain ⟨G, M, R, n, Sg, B, ⟨ca, wn⟩, S, hR, hSR, st, hB, hB9, ⟨rfl, hca, hwn1, hwn⟩, k⟩ := h
  dsimp only at hca hwn hwn1
  obtain ⟨xs, hxs, hxl, hxe⟩ := st ca _ hca
  have hne : ca ≠ R := fun z => by subst z; rw [hSR] at hca; cases hca
  refine ⟨_, (pss_cons (ps_set (i := 3) sc_l_change_state.nd rfl (Or.inl rfl) (pe_fn h_l_draw hr (pa_cons (pv 2) (pa_cons pe_int pa_nil))))
    (pss_cons (ps_set (i := 4) sc_l_change_state.nd rfl (Or.inl rfl) (pe_fn h_l_draw hr (pa_cons (pv 2) (pa_cons (pe_op op_add (pe_callB (lenS K) (by rfl) T.len PySem.boot_len (pa_cons (pv 0) pa_nil)) pe_int) pa_nil))))
    (pss_one (ps_if (PW.pt (pw_or (pt_cmpR op_eq (pv 3) pe_int (nomark _)) (pw_or1 (pt_cmpR op_eq (pv 4) (pe_callB (lenS K) (by rfl) T.len PySem.boot_len (pa_cons (pv 0) pa_nil)) (nomark _)))))
     (pss_cons (ps_set (i := 5) sc_l_change_state.nd rfl (Or.inl rfl) (pe_op op_add (pv 1) (pe_ix (ixL K) (pe_lst (pa_cons pe_int (pa_cons pe_int (pa_cons pe_int (pa_cons pe_int (pa_cons pe_int (pa_cons (pe_un un_neg pe_int) pa_nil))))))) (pe_fn h_l_draw hr (pa_cons (pv 2) (pa_cons pe_int pa_nil))) (fun _ _ => rfl))))
     (pss_one (ps_expr (pe_bm PySem.F.plainAttrs_list PySem.F.slot_list_insert PySem.F.type_list_insert mt_insert (pv 0) (pa_cons (pv 4) (pa_cons (pe_callTy (tupO K) (by rfl) T.tuple (by decide +kernel) (pa_cons (pe_lc (own := [("_law_k", 6)]) rfl sc_l_change_state.nd (pi_range1 (by rfl) T.range (pa_cons (pv 5) pa_nil)) (blkOk_by (N := ["_law_rows_here", "_law_wires", "_law_rest", "_law_choice", "_law_at", "_law_size", "_law_k"]) (sc := defScope s_l_change_state) (by decide +kernel)) (fun _ _ _ _ _ => (pg_name (i := 6) sc_l_change_state.nd rfl (Or.inl rfl))) (fun _ _ _ _ _ => pts_nil) (fun _ _ _ _ _ => (pe_fn h_l_draw hr (pa_cons (pv 2) (pa_cons pe_int pa_nil))))) pa_nil)) pa_nil))))))
     (pss_one (ps_if (pt_cmpR op_eq (pv 3) pe_int (nomark _))
      (pss_one (ps_expr (pe_bm PySem.F.plainAttrs_list PySem.F.slot_list_pop PySem.F.type_list_pop mt_popAt (pv 0) (pa_cons (pv 4) pa_nil))))
      (pss_one (ps_if (pt_cmpR op_eq (pv 3) pe_int (nomark _))
       (pss_one (ps_expr (pe_bm PySem.F.plainAttrs_list PySem.F.slot_list_insert PySem.F.type_list_insert mt_insert (pv 0) (pa_cons (pv 4) (pa_cons (pe_ix (ixL K) (pv 0) (pv 4) (fun _ _ => rfl)) pa_nil)))))
       (pss_one (ps_if (pt_cmpR op_eq (pv 3) pe_int (nomark _))
        (pss_one (ps_expr (pe_bm PySem.F.plainAttrs_list PySem.F.slot_list_insert PySem.F.type_list_insert mt_insert (pv 0) (pa_cons pe_int (pa_cons (pe_bm PySem.F.plainAttrs_list PySem.F.slot_list_pop PySem.F.type_list_pop mt_popAt (pv 0) (pa_cons (pv 4) pa_nil)) pa_nil)))))
        (pss_one (ps_if (pt_cmpR op_eq (pv 3) pe_int (nomark _))
         (pss_one (ps_asg (pe_op (catA K) (pe_slice (slA K) (pe_ix (ixL K) (pv 0) (pv 4) (fun _ _ => rfl)) (po_some pe_int) po_none) (pe_tup (pa_cons (pe_fn h_l_value hr (pa_cons (pv 2) (pa_cons pe_int pa_nil))) pa_nil))) (pg_sub (pv 0) (pv 4) set_list)))
         (pss_one (ps_asg (pe_op (catA K) (pe_ix (ixL K) (pv 0) (pv 4) (fun _ _ => rfl)) (pe_tup (pa_cons (pe_fn h_l_draw hr (pa_cons (pv 2) (pa_cons pe_int pa_nil))) pa_nil))) (pg_sub (pv 0) (pv 4) set_list))))))))))))))), ?_⟩
  walk_at "rd"
  refine ⟨G, M, R, 6, S, hR, ⟨_, _, rfl, rfl, rfl, by decide⟩, fun v G1 M1 H1 E1 O1 R1 S1 ⟨c, ec, c0, c1⟩ => ?_⟩
  subst ec
  have f1 : M1 ca = some (.lst xs) := by rw [O1 _ hne]; exact hxs
  walk_at "rd"
  refine ⟨G1, M1, R, xs.length + 1, S1, R1, ⟨_, _, rfl, rfl, rfl, by omega⟩, fun v G2 M2 H2 E2 O2 R2 S2 ⟨d, ed, d0, d1⟩ => ?_⟩
  subst ed
  have f2 : M2 ca = some (.lst xs) := by rw [O2 _ hne]; exact f1
  have O12 := off_trans O1 O2
  have E12 := E1.trans E2
  have fin : ∀ (G' M' M'' H'' : Hp) (ys : List V), Same G G' → Off (· = R) M M' → Rest M' R → (∀ b, b ≠ ca → M'' b = M' b) → Hs G' M'' H'' → M'' ca = some (.lst ys) → okL n Sg G' (B + 1) .rows ys → Q .non H'' := fun G' M' M'' H'' ys E O hR' e S'' f ok => by
    obtain ⟨h1, h2, h3⟩ := sto_fin st hSR hca E O hR' e f ok
    exact k G' M'' H'' Sg E S'' h1 hSR (Ext.refl _) h2 h3
  have oke : ∀ G', Same G G' → ∀ x ∈ xs, ∃ r : Row, rTI r x G' ∧ r.length ≤ B + 1 := fun G' E x hx => let ⟨c, h, h2⟩ := hxe x hx; ⟨c, up_TI _ _ _ _ E h, by omega⟩
  walk_at "rd"
  refine rd_ite (fun h0 => ?ca) (fun h0 => ?cb)
  case' ca =>
    refine iteT ?_
  case' cb =>
    walk_at "rd"
    refine rd_ite (fun h0b => ?ca2) (fun h0b => ?cc)
  case cc =>
    have hlt : d < xs.length := by omega
    obtain ⟨y, hay, hgy, hmy⟩ := at_mem d0 hlt
    obtain ⟨r, ⟨ta, rfl, hta⟩, hrl⟩ := oke _ E12 y hmy
    walk_at "rd"
    refine rd_ite (fun h1 => ?_) (fun h1 => ?_)
    · walk_at "rd"
      refine ⟨ty_lst (S2.m _ _ f2), ?_⟩
      walk_at "rd"
      refine rd_popM S2 f2 d0 hlt (by omega) (fun y M3 H3 hy e3 S3 f3 => ?_)
      exact fin G2 M2 M3 H3 _ E12 O12 R2 e3 S3 f3 ⟨Nat.le_trans (erase_le _ _) (by omega), del_all _ (oke _ E12)⟩
    walk_at "rd"
    refine rd_ite (fun h2 => ?_) (fun h2 => ?_)
    · walk_at "rd"
      refine ⟨ty_lst (S2.m _ _ f2), ?_⟩
      walk_at "rd"
      refine rd_insM S2 f2 (by rw [sizeLine_eq]; omega) d0 (by omega) (fun M6 H6 e6 S6 f6 => ?_)
      exact fin G2 M2 M6 H6 _ E12 O12 R2 e6 S6 f6 ⟨by rw [ins_len]; omega, ins_all _ (oke _ E12) (oke _ E12 _ hmy)⟩
    walk_at "rd"
    refine rd_ite (fun h3 => ?_) (fun h3 => ?_)
    · walk_at "rd"
      refine ⟨ty_lst (S2.m _ _ f2), ?_⟩
      walk_at "rd"
      refine ⟨ty_lst (S2.m _ _ f2), ?_⟩
      walk_at "rd"
      refine rd_popM S2 f2 d0 hlt (by omega) (fun y M3 H3 hy e3 S3 f3 => ?_)
      walk_at "rd"
      refine rd_insM S3 f3 (by have := erase_le xs d.toNat; rw [sizeLine_eq]; omega) (by decide) (by decide) (fun M6 H6 e6 S6 f6 => ?_)
      exact fin G2 M2 M6 H6 _ E12 O12 R2 (fun b hb => (e6 b hb).trans (e3 b hb)) S6 f6 ⟨by have := erase_le xs d.toNat; rw [ins_len]; omega, ins_all _ (del_all _ (oke _ E12)) (oke _ E12 _ (List.mem_of_getElem? hy))⟩
    walk_at "rd"
    refine rd_ite (fun h4 => ?_) (fun h4 => ?_)
    · walk_at "rd"
      refine al_slA S2 hta (fun q1 G3 H3 E3 S3 f3 => ?_)
      rw [cut1] at f3
      walk_at "rd"
      apply rd_tup
      walk_at "rd"
      refine ⟨G3, M2, R, 0, S3, R2, ⟨_, _, rfl, rfl, rfl, by decide⟩, fun v G4 M4 H4 E4 O4 R4 S4 ⟨i1, ei1⟩ => ?_⟩
      subst ei1
      walk_at "rd"
      refine ⟨by simp [sizeLine_eq], fun t ht => ?_⟩
      obtain ⟨G5, E5, S5, f5⟩ := S4.addG (o := .tup [.int i1]) ht
      refine al_catT S5 (E5 _ _ (E4 _ _ f3)) f5 (by rw [List.length_drop, List.length_map, sizeLine_eq]; simp; omega) (fun l G6 H6 E6 S6 f6 => ?_)
      have f4 : M4 ca = some (.lst xs) := by rw [O4 _ hne]; exact f2
      walk_at "rd"
      refine rd_setM S6 f4 (ixN_of (j := d.toNat) (by omega) (by omega)) (fun M7 H7 e7 S7 f7 => ?_)
      have E06 := ((E12.trans E3).trans (E4.trans E5)).trans E6
      exact fin G6 M4 M7 H7 _ E06 (off_trans O12 O4) R4 e7 S7 f7 ⟨by rw [List.length_set]; omega, set_all _ (oke _ E06) ⟨r.drop 1 ++ [i1], ⟨l, rfl, by rw [f6, List.map_append, List.map_drop]; rfl⟩, by simp only [List.length_append, List.length_drop, List.length_singleton]; omega⟩⟩
    · walk_at "rd"
      apply rd_tup
      walk_at "rd"
      refine ⟨G2, M2, R, 2, S2, R2, ⟨_, _, rfl, rfl, rfl, by decide⟩, fun v G4 M4 H4 E4 O4 R4 S4 ⟨i1, ei1, _, _⟩ => ?_⟩
      subst ei1
      walk_at "rd"
      refine ⟨by simp [sizeLine_eq], fun t ht => ?_⟩
      obtain ⟨G5, E5, S5, f5⟩ := S4.addG (o := .tup [.int i1]) ht
      refine al_catT S5 (E5 _ _ (E4 _ _ hta)) f5 (by rw [List.length_map, sizeLine_eq]; simp; omega) (fun l G6 H6 E6 S6 f6 => ?_)
      have f4 : M4 ca = some (.lst xs) := by rw [O4 _ hne]; exact f2
      walk_at "rd"
      refine rd_setM S6 f4 (ixN_of (j := d.toNat) (by omega) (by omega)) (fun M7 H7 e7 S7 f7 => ?_)
      have E06 := (E12.trans (E4.trans E5)).trans E6
      obtain ⟨r0, ⟨tb, etb, htb⟩, hr0⟩ := hxe _ hmy
      cases etb
      have er : r0 = r := by
        have h1 := E12 _ _ htb
        rw [hta] at h1
        have h2 : (r.map V.int) = (r0.map V.int) := by injection h1 with h1; injection h1
        exact (List.map_inj_right (fun a b h => by injection h)).mp h2.symm
      rw [er] at hr0
      exact fin G6 M4 M7 H7 _ E06 (off_trans O12 O4) R4 e7 S7 f7 ⟨by rw [List.length_set]; omega, set_all _ (oke _ E06) ⟨r ++ [i1], ⟨l, rfl, by rw [f6, List.map_append]; rfl⟩, by rw [List.length_append]; simp; omega⟩⟩
  all_goals
    walk_at "rd"
    refine al_lst S2 (by intro R_ q_; walk_at "rd"; refine ⟨1, rfl, ?_⟩; walk_at "rd"; exact q_) (by simp [sizeLine_eq]) (fun q1 G3 H3 E3 S3 f3 => ?_)
    walk_at "rd"
    refine ⟨G3, M2, R, 6, S3, R2, ⟨_, _, rfl, rfl, rfl, by decide⟩, fun v G4 M4 H4 E4 O4 R4 S4 ⟨i1, ei1, i0, i6⟩ => ?_⟩
    subst ei1
    have hz : ∃ (z : Int) (m : Nat), atI [V.int 0, V.int 0, V.int 0, V.int 0, V.int 1, V.int (-1)] i1 = some (.int z) ∧ (wn : Int) + z = m ∧ m ≤ 9 := by
      have hc : i1 = 0 ∨ i1 = 1 ∨ i1 = 2 ∨ i1 = 3 ∨ i1 = 4 ∨ i1 = 5 := by omega
      rcases hc with rfl | rfl | rfl | rfl | rfl | rfl
      · exact ⟨0, wn, rfl, by omega, by omega⟩
      · exact ⟨0, wn, rfl, by omega, by omega⟩
      · exact ⟨0, wn, rfl, by omega, by omega⟩
      · exact ⟨0, wn, rfl, by omega, by omega⟩
      · exact ⟨1, wn + 1, rfl, by omega, by omega⟩
      · exact ⟨-1, wn - 1, rfl, by omega, by omega⟩
    obtain ⟨z, m, hz, hm, hm9⟩ := hz
    have f3' := E4 _ _ f3
    walk_at "rd"
    have f4 : M4 ca = some (.lst xs) := by rw [O4 _ hne]; exact f2
    refine ⟨ty_lst (S4.m _ _ f4), ?_⟩
    walk_at "rd"
    refine compD up_Z (n := m) (R := R) S4 (by intro R_ q_; walk_at "rd"; dsimp only; rw [hm]; exact q_) (by omega) R4 (by intro _; rfl) (fun i G5 M5 H5 hi E5 R5 S5 Q' kk => ?_) (fun p acc l G5 M5 H5 E5 e5 n5 R5 S5 f5 al5 hl5 => ?_)
    · walk_at "rd"
      refine ⟨G5, M5, R, 2, S5, R5, ⟨_, _, rfl, rfl, rfl, by decide⟩, fun v G6 M6 H6 E6 O6 R6 S6 ⟨i2, ei2, _, _⟩ => ?_⟩
      exact kk v i2 G6 M6 H6 E6 O6 R6 S6 ei2
    · have ea := al5.ints
      subst ea
      have hpR : p ≠ R := fun z => by
        subst z
        obtain ⟨ns, hns⟩ := R4
        rw [n5] at hns
        cases hns
      have hpc : ca ≠ p := fun z => by subst z; rw [n5] at f4; cases f4
      walk_at "rd"
      refine al_tpL S5 (S5.m _ _ f5) (fun t G6 H6 E6 S6 f6 => ?_)
      obtain ⟨G7, E7, S7, _⟩ := S6.close f5
      have f7 : del M5 p ca = some (.lst xs) := by rw [del_ne hpc, e5 _ hpc hne]; exact f4
      walk_at "rd"
      refine rd_insM S7 f7 (by rw [sizeLine_eq]; omega) d0 (by omega) (fun M8 H8 e8 S8 f8 => ?_)
      have E27 := ((E3.trans E4).trans (E5.trans E6)).trans E7
      have O7 : Off (· = R) M (del M5 p) := fun b hb => by
        by_cases hbp : b = p
        · subst hbp
          rw [del_same]
          rw [← n5]
          exact ((off_trans O12 O4) b hb)
        · rw [del_ne hbp, e5 b hbp hb]
          exact ((off_trans O12 O4) b hb)
      have R7 : Rest (del M5 p) R := by
        obtain ⟨ns, hns⟩ := R5
        exact ⟨ns, by rw [del_ne hpR.symm]; exact hns⟩
      have E07 := E12.trans E27
      exact fin G7 _ M8 H8 _ E07 O7 R7 e8 S8 f8 ⟨by rw [ins_len]; omega, ins_all _ (oke _ E07) ⟨l, ⟨t, rfl, E7 _ _ f6⟩, by omega⟩⟩
end
end N
/-! LP: the law: changes of covers -/
namespace N
open PySem L2
theorem ti_uniq {r r0 : Row} {v : V} {G : Hp} (h : rTI r v G) (h0 : rTI r0 v G) : r = r0 := by
  obtain ⟨a, rfl, ha⟩ := h
  obtain ⟨b, e, hb⟩ := h0
  cases e
  rw [ha] at hb
  have h2 : (r.map V.int) = (r0.map V.int) := by injection hb with h1; injection h1
  exact (List.map_inj_right (fun a b h => by injection h)).mp h2
section
variable {P : Program} {w : World} {K : PySem.W.Frag} {mg : Str → Option Value} {base : Heap}
def sp_l_change_covers : Sp := stoSp (fun (x : Addr × Nat) _ Sg R vs => vs = [.ref x.1, .int (x.2 : Int), .ref R] ∧ Sg x.1 = some .covs ∧ 1 ≤ x.2 ∧ x.2 ≤ 8)
theorem ok_l_change_covers (T : Bt mg) (F : Dfn K mg "_law_change_covers" s_l_change_covers) (h_l_draw : Has P w K mg base 1 "_law_draw" ["_law_rest", "_law_limit"] sp_l_draw) (h_l_value : Has P w K mg base 2 "_law_value" ["_law_rest", "_law_wires"] sp_l_value) :
    Has P w K mg base 3 "_law_change_covers" ["_law_covers", "_law_wires", "_law_rest"] sp_l_change_covers := by
  refine F.ok sc_l_change_covers (fun _ _ _ _ _ _ us hl => match us, hl with | [_, _, _], _ => rfl) (fun vs H Q E h => by obtain ⟨_, _, _, _, _, _, _, _, _, _, _, _, _, ⟨rfl, _⟩, _⟩ := h; rfl) (fun f cdv A outer s H vs Q E hr h => ?_)
  obtain ⟨G, M, R, n, Sg, B, ⟨ca, wn⟩, S, hR, hSR, st, hB, hB9, ⟨rfl, hca, hwn1, hwn⟩, k⟩ := h
  dsimp only at hca hwn hwn1
  obtain ⟨xs, hxs, hxl, hxe⟩ := st ca _ hca
  have hne : ca ≠ R := fun z => by subst z; rw [hSR] at hca; cases hca
  refine ⟨_, (pss_cons (ps_set (i := 3) sc_l_change_covers.nd rfl (Or.inl rfl) (pe_fn h_l_draw hr (pa_cons (pv 2) (pa_cons pe_int pa_nil))))
    (pss_cons (ps_set (i := 4) sc_l_change_covers.nd rfl (Or.inl rfl) (pe_fn h_l_draw hr (pa_cons (pv 2) (pa_cons (pe_op op_add (pe_callB (lenS K) (by rfl) T.len PySem.boot_len (pa_cons (pv 0) pa_nil)) pe_int) pa_nil))))
    (pss_one (ps_if (PW.pt (pw_or (pt_cmpR op_eq (pv 3) pe_int (nomark _)) (pw_or1 (pt_cmpR op_eq (pv 4) (pe_callB (lenS K) (by rfl) T.len PySem.boot_len (pa_cons (pv 0) pa_nil)) (nomark _)))))
     (pss_one (ps_expr (pe_bm PySem.F.plainAttrs_list PySem.F.slot_list_insert PySem.F.type_list_insert mt_insert (pv 0) (pa_cons (pv 4) (pa_cons (pe_tup (pa_cons (pe_fn h_l_draw hr (pa_cons (pv 2) (pa_cons pe_int pa_nil))) (pa_cons (pe_callTy (tupO K) (by rfl) T.tuple (by decide +kernel) (pa_cons (pe_lc (own := [("_law_k", 5)]) rfl sc_l_change_covers.nd (pi_range1 (by rfl) T.range (pa_cons (pv 1) pa_nil)) (blkOk_by (N := ["_law_covers", "_law_wires", "_law_rest", "_law_choice", "_law_at", "_law_k"]) (sc := defScope s_l_change_covers) (by decide +kernel)) (fun _ _ _ _ _ => (pg_name (i := 5) sc_l_change_covers.nd rfl (Or.inl rfl))) (fun _ _ _ _ _ => pts_nil) (fun _ _ _ _ _ => (pe_fn h_l_draw hr (pa_cons (pv 2) (pa_cons (pe_op op_add (pv 1) pe_int) pa_nil))))) pa_nil)) pa_nil))) pa_nil)))))
     (pss_one (ps_if (pt_cmpR op_eq (pv 3) pe_int (nomark _))
      (pss_one (ps_expr (pe_bm PySem.F.plainAttrs_list PySem.F.slot_list_pop PySem.F.type_list_pop mt_popAt (pv 0) (pa_cons (pv 4) pa_nil))))
      (pss_one (ps_if (pt_cmpR op_eq (pv 3) pe_int (nomark _))
       (pss_one (ps_asg (pe_tup (pa_cons (pe_fn h_l_value hr (pa_cons (pv 2) (pa_cons (pv 1) pa_nil))) (pa_cons (pe_ix (ixT K) (pe_ix (ixL K) (pv 0) (pv 4) (fun _ _ => rfl)) pe_int (fun _ _ => rfl)) pa_nil))) (pg_sub (pv 0) (pv 4) set_list)))
       (pss_one (ps_if (pt_cmpR op_eq (pv 3) pe_int (nomark _))
        (pss_one (ps_asg (pe_tup (pa_cons (pe_ix (ixT K) (pe_ix (ixL K) (pv 0) (pv 4) (fun _ _ => rfl)) pe_int (fun _ _ => rfl)) (pa_cons (pe_op (catA K) (pe_slice (slA K) (pe_ix (ixT K) (pe_ix (ixL K) (pv 0) (pv 4) (fun _ _ => rfl)) pe_int (fun _ _ => rfl)) (po_some pe_int) po_none) (pe_tup (pa_cons (pe_fn h_l_value hr (pa_cons (pv 2) (pa_cons (pv 1) pa_nil))) pa_nil))) pa_nil))) (pg_sub (pv 0) (pv 4) set_list)))
        (pss_one (ps_if (pt_cmpR op_eq (pv 3) pe_int (nomark _))
         (pss_one (ps_asg (pe_tup (pa_cons (pe_ix (ixT K) (pe_ix (ixL K) (pv 0) (pv 4) (fun _ _ => rfl)) pe_int (fun _ _ => rfl)) (pa_cons (pe_op (catA K) (pe_ix (ixT K) (pe_ix (ixL K) (pv 0) (pv 4) (fun _ _ => rfl)) pe_int (fun _ _ => rfl)) (pe_tup (pa_cons (pe_fn h_l_value hr (pa_cons (pv 2) (pa_cons (pv 1) pa_nil))) pa_nil))) pa_nil))) (pg_sub (pv 0) (pv 4) set_list)))
         (pss_one (ps_expr (pe_bm PySem.F.plainAttrs_list PySem.F.slot_list_insert PySem.F.type_list_insert mt_insert (pv 0) (pa_cons pe_int (pa_cons (pe_bm PySem.F.plainAttrs_list PySem.F.slot_list_pop PySem.F.type_list_pop mt_popAt (pv 0) (pa_cons (pv 4) pa_nil)) pa_nil))))))))))))))))), ?_⟩
  walk_at "rd"
  refine ⟨G, M, R, 6, S, hR, ⟨_, _, rfl, rfl, rfl, by decide⟩, fun v G1 M1 H1 E1 O1 R1 S1 ⟨c, ec, c0, c1⟩ => ?_⟩
  subst ec
  have f1 : M1 ca = some (.lst xs) := by rw [O1 _ hne]; exact hxs
  walk_at "rd"
  refine ⟨G1, M1, R, xs.length + 1, S1, R1, ⟨_, _, rfl, rfl, rfl, by omega⟩, fun v G2 M2 H2 E2 O2 R2 S2 ⟨d, ed, d0, d1⟩ => ?_⟩
  subst ed
  have f2 : M2 ca = some (.lst xs) := by rw [O2 _ hne]; exact f1
  have O12 := off_trans O1 O2
  have E12 := E1.trans E2
  have fin : ∀ (G' M' M'' H'' : Hp) (ys : List V), Same G G' → Off (· = R) M M' → Rest M' R → (∀ b, b ≠ ca → M'' b = M' b) → Hs G' M'' H'' → M'' ca = some (.lst ys) → okL n Sg G' (B + 1) .covs ys → Q .non H'' := fun G' M' M'' H'' ys E O hR' e S'' f ok => by
    obtain ⟨h1, h2, h3⟩ := sto_fin st hSR hca E O hR' e f ok
    exact k G' M'' H'' Sg E S'' h1 hSR (Ext.refl _) h2 h3
  have oke : ∀ G', Same G G' → ∀ x ∈ xs, ∃ e : Ent, rEnt e x G' ∧ e.2.length ≤ B + 1 := fun G' E x hx => let ⟨c, h, h2⟩ := hxe x hx; ⟨c, up_Ent _ _ _ _ E h, by omega⟩
  walk_at "rd"
  refine rd_ite (fun h0 => ?ca) (fun h0 => ?cb)
  case' ca =>
    refine iteT ?_
  case' cb =>
    walk_at "rd"
    refine rd_ite (fun h0b => ?ca2) (fun h0b => ?cc)
  case cc =>
    have hlt : d < xs.length := by omega
    obtain ⟨y, hay, hgy, hmy⟩ := at_mem d0 hlt
    obtain ⟨e0, he0, he0l⟩ := hxe y hmy
    obtain ⟨ta, ix, nv, rfl, hta, hix, nb, rfl, hnb⟩ := up_Ent _ _ _ _ E12 he0
    cases hix
    have hp0 : atI [V.int e0.1, V.ref nb] 0 = some (.int e0.1) := rfl
    have hp1 : atI [V.int e0.1, V.ref nb] 1 = some (.ref nb) := rfl
    walk_at "rd"
    refine rd_ite (fun h1 => ?_) (fun h1 => ?_)
    · walk_at "rd"
      refine ⟨ty_lst (S2.m _ _ f2), ?_⟩
      walk_at "rd"
      refine rd_popM S2 f2 d0 hlt (by omega) (fun y M3 H3 hy e3 S3 f3 => ?_)
      exact fin G2 M2 M3 H3 _ E12 O12 R2 e3 S3 f3 ⟨Nat.le_trans (erase_le _ _) (by omega), del_all _ (oke _ E12)⟩
    walk_at "rd"
    refine rd_ite (fun h2 => ?_) (fun h2 => ?_)
    · walk_at "rd"
      apply rd_tup
      walk_at "rd"
      refine ⟨G2, M2, R, wn, S2, R2, ⟨_, _, rfl, rfl, rfl, by omega⟩, fun v G3 M3 H3 E3 O3 R3 S3 ⟨i1, ei1⟩ => ?_⟩
      subst ei1
      have f3 : M3 ca = some (.lst xs) := by rw [O3 _ hne]; exact f2
      have hta3 := E3 _ _ hta
      walk_at "rd"
      refine ⟨by simp [sizeLine_eq], fun t ht => ?_⟩
      obtain ⟨G5, E5, S5, f5⟩ := S3.addG (o := .tup [.int i1, .ref nb]) ht
      walk_at "rd"
      refine rd_setM S5 f3 (ixN_of (j := d.toNat) (by omega) (by omega)) (fun M6 H6 e6 S6 f6 => ?_)
      have E05 := (E12.trans E3).trans E5
      exact fin G5 M3 M6 H6 _ E05 (off_trans O12 O3) R3 e6 S6 f6 ⟨by rw [List.length_set]; omega, set_all _ (oke _ E05) ⟨(i1, e0.2), ⟨t, _, _, rfl, f5, rfl, nb, rfl, (E3.trans E5) _ _ hnb⟩, by dsimp only; omega⟩⟩
    walk_at "rd"
    refine rd_ite (fun h3 => ?_) (fun h3 => ?_)
    · walk_at "rd"
      apply rd_tup
      walk_at "rd"
      refine al_slA S2 hnb (fun q1 G3 H3 E3 S3 f3 => ?_)
      rw [cut1] at f3
      walk_at "rd"
      apply rd_tup
      walk_at "rd"
      refine ⟨G3, M2, R, wn, S3, R2, ⟨_, _, rfl, rfl, rfl, by omega⟩, fun v G4 M4 H4 E4 O4 R4 S4 ⟨i1, ei1⟩ => ?_⟩
      subst ei1
      walk_at "rd"
      refine ⟨by simp [sizeLine_eq], fun t ht => ?_⟩
      obtain ⟨G5, E5, S5, f5⟩ := S4.addG (o := .tup [.int i1]) ht
      refine al_catT S5 (E5 _ _ (E4 _ _ f3)) f5 (by rw [List.length_drop, List.length_map, sizeLine_eq]; simp; omega) (fun l G6 H6 E6 S6 f6 => ?_)
      have f4 : M4 ca = some (.lst xs) := by rw [O4 _ hne]; exact f2
      walk_at "rd"
      refine ⟨by simp [sizeLine_eq], fun u hu => ?_⟩
      obtain ⟨G7, E7, S7, f7⟩ := S6.addG (o := .tup [.int e0.1, .ref l]) hu
      walk_at "rd"
      refine rd_setM S7 f4 (ixN_of (j := d.toNat) (by omega) (by omega)) (fun M8 H8 e8 S8 f8 => ?_)
      have E07 := ((E12.trans E3).trans (E4.trans E5)).trans (E6.trans E7)
      refine fin G7 M4 M8 H8 _ E07 (off_trans O12 O4) R4 e8 S8 f8 ⟨by rw [List.length_set]; omega, set_all _ (oke _ E07) ⟨(e0.1, e0.2.drop 1 ++ [i1]), ⟨u, _, _, rfl, f7, rfl, l, rfl, ?_⟩, ?_⟩⟩
      · rw [E7 _ _ f6, List.map_append, List.map_drop]
        rfl
      · simp only [List.length_append, List.length_drop, List.length_singleton]
        omega
    walk_at "rd"
    refine rd_ite (fun h4 => ?_) (fun h4 => ?_)
    · walk_at "rd"
      apply rd_tup
      walk_at "rd"
      apply rd_tup
      walk_at "rd"
      refine ⟨G2, M2, R, wn, S2, R2, ⟨_, _, rfl, rfl, rfl, by omega⟩, fun v G4 M4 H4 E4 O4 R4 S4 ⟨i1, ei1⟩ => ?_⟩
      subst ei1
      walk_at "rd"
      refine ⟨by simp [sizeLine_eq], fun t ht => ?_⟩
      obtain ⟨G5, E5, S5, f5⟩ := S4.addG (o := .tup [.int i1]) ht
      refine al_catT S5 (E5 _ _ (E4 _ _ hnb)) f5 (by rw [List.length_map, sizeLine_eq]; simp; omega) (fun l G6 H6 E6 S6 f6 => ?_)
      have f4 : M4 ca = some (.lst xs) := by rw [O4 _ hne]; exact f2
      walk_at "rd"
      refine ⟨by simp [sizeLine_eq], fun u hu => ?_⟩
      obtain ⟨G7, E7, S7, f7⟩ := S6.addG (o := .tup [.int e0.1, .ref l]) hu
      walk_at "rd"
      refine rd_setM S7 f4 (ixN_of (j := d.toNat) (by omega) (by omega)) (fun M8 H8 e8 S8 f8 => ?_)
      have E07 := (E12.trans (E4.trans E5)).trans (E6.trans E7)
      refine fin G7 M4 M8 H8 _ E07 (off_trans O12 O4) R4 e8 S8 f8 ⟨by rw [List.length_set]; omega, set_all _ (oke _ E07) ⟨(e0.1, e0.2 ++ [i1]), ⟨u, _, _, rfl, f7, rfl, l, rfl, ?_⟩, ?_⟩⟩
      · rw [E7 _ _ f6, List.map_append]
        rfl
      · simp only [List.length_append, List.length_singleton]
        omega
    walk_at "rd"
    refine ⟨ty_lst (S2.m _ _ f2), ?_⟩
    walk_at "rd"
    refine ⟨ty_lst (S2.m _ _ f2), ?_⟩
    walk_at "rd"
    refine rd_popM S2 f2 d0 hlt (by omega) (fun y M3 H3 hy e3 S3 f3 => ?_)
    walk_at "rd"
    refine rd_insM S3 f3 (by have := erase_le xs d.toNat; rw [sizeLine_eq]; omega) (by decide) (by decide) (fun M6 H6 e6 S6 f6 => ?_)
    exact fin G2 M2 M6 H6 _ E12 O12 R2 (fun b hb => (e6 b hb).trans (e3 b hb)) S6 f6 ⟨by have := erase_le xs d.toNat; rw [ins_len]; omega, ins_all _ (del_all _ (oke _ E12)) (oke _ E12 _ (List.mem_of_getElem? hy))⟩
  all_goals
    walk_at "rd"
    refine ⟨ty_lst (S2.m _ _ f2), ?_⟩
    walk_at "rd"
    apply rd_tup
    walk_at "rd"
    refine ⟨G2, M2, R, 3, S2, R2, ⟨_, _, rfl, rfl, rfl, by decide⟩, fun v G4 M4 H4 E4 O4 R4 S4 ⟨i1, ei1, _, _⟩ => ?_⟩
    subst ei1
    have f4 : M4 ca = some (.lst xs) := by rw [O4 _ hne]; exact f2
    walk_at "rd"
    refine compD up_Z (n := wn) (R := R) S4 (by walk_at "gv") (by omega) R4 (by intro _; rfl) (fun i G5 M5 H5 hi E5 R5 S5 Q' kk => ?_) (fun p acc l G5 M5 H5 E5 e5 n5 R5 S5 f5 al5 hl5 => ?_)
    · walk_at "rd"
      refine ⟨G5, M5, R, wn + 1, S5, R5, ⟨_, _, rfl, rfl, rfl, by omega⟩, fun v G6 M6 H6 E6 O6 R6 S6 ⟨i2, ei2, _, _⟩ => ?_⟩
      exact kk v i2 G6 M6 H6 E6 O6 R6 S6 ei2
    · have ea := al5.ints
      subst ea
      have hpR : p ≠ R := fun z => by
        subst z
        obtain ⟨ns, hns⟩ := R4
        rw [n5] at hns
        cases hns
      have hpc : ca ≠ p := fun z => by subst z; rw [n5] at f4; cases f4
      walk_at "rd"
      refine al_tpL S5 (S5.m _ _ f5) (fun t G6 H6 E6 S6 f6 => ?_)
      obtain ⟨G7, E7, S7, _⟩ := S6.close f5
      have f7 : del M5 p ca = some (.lst xs) := by rw [del_ne hpc, e5 _ hpc hne]; exact f4
      walk_at "rd"
      refine ⟨by simp [sizeLine_eq], fun u hu => ?_⟩
      obtain ⟨G8, E8, S8, f8⟩ := S7.addG (o := .tup [.int i1, .ref t]) hu
      walk_at "rd"
      refine rd_insM S8 f7 (by rw [sizeLine_eq]; omega) d0 (by omega) (fun M9 H9 e9 S9 f9 => ?_)
      have O7 : Off (· = R) M (del M5 p) := fun b hb => by
        by_cases hbp : b = p
        · subst hbp
          rw [del_same]
          rw [← n5]
          exact ((off_trans O12 O4) b hb)
        · rw [del_ne hbp, e5 b hbp hb]
          exact ((off_trans O12 O4) b hb)
      have R7 : Rest (del M5 p) R := by
        obtain ⟨ns, hns⟩ := R5
        exact ⟨ns, by rw [del_ne hpR.symm]; exact hns⟩
      have E08 := (E12.trans (E4.trans E5)).trans (E6.trans (E7.trans E8))
      exact fin G8 _ M9 H9 _ E08 O7 R7 e9 S9 f9 ⟨by rw [ins_len]; omega, ins_all _ (oke _ E08) ⟨(i1, l), ⟨u, _, _, rfl, f8, rfl, t, rfl, E8 _ _ (E7 _ _ f6)⟩, by dsimp only; omega⟩⟩
end
end N
/-! LQ: the law: changes of a level -/
namespace N
open PySem L2
structure Stp (n : Nat) (R : Addr) (Sg : Sig) (G M : Hp) (Sg' : Sig) (G' M' : Hp) (B : Nat) : Prop where
  E : Same G G'
  x : Ext Sg Sg'
  fr : Frame Sg Sg' R M M'
  st : Sto n Sg' G' M' B
  re : Rest M' R
  hR : Sg' R = none
section
variable {n B B' : Nat} {R p : Addr} {Sg Sg' : Sig} {G G' G'' M M' M'' : Hp} {k : Kd} {xs : List V}
theorem stp_refl (st : Sto n Sg G M B) (re : Rest M R) (hR : Sg R = none) : Stp n R Sg G M Sg G M B := ⟨Same.refl _, Ext.refl _, fun _ _ h _ h2 => ⟨h2, h⟩, st, re, hR⟩
theorem stp_same (h : Stp n R Sg G M Sg' G' M' B) (E : Same G' G'') : Stp n R Sg G M Sg' G'' M' B := ⟨h.E.trans E, h.x, h.fr, h.st.up E (Nat.le_refl _), h.re, h.hR⟩
theorem stp_draw (h : Stp n R Sg G M Sg' G' M' B) (E : Same G' G'') (O : Off (· = R) M' M'') (re : Rest M'' R) : Stp n R Sg G M Sg' G'' M'' B :=
  ⟨h.E.trans E, h.x, fun b o h1 h2 h3 => ⟨by rw [O b h2]; exact (h.fr b o h1 h2 h3).1, (h.fr b o h1 h2 h3).2⟩, (h.st.rest O h.hR).up E (Nat.le_refl _), re, h.hR⟩
theorem stp_new (h : Stp n R Sg G M Sg' G' M' B) (hn : M' p = none) (e : ∀ b, b ≠ p → M'' b = M' b) (f : M'' p = some (.lst xs)) (ok : okL n Sg' G' B k xs) : Stp n R Sg G M (upS Sg' p k) G' M'' B ∧ Ext Sg' (upS Sg' p k) := by
  have hno := h.st.no hn
  have hx : Ext Sg' (upS Sg' p k) := ext_new (.inl hno)
  have hpR : p ≠ R := fun z => by
    subst z
    obtain ⟨ns, hns⟩ := h.re
    rw [hn] at hns
    cases hns
  refine ⟨⟨h.E, h.x.trans hx, fun b o h1 h2 h3 => ?_, h.st.set (Nat.le_refl _) e f hx (okL_up hx (Same.refl _) (Nat.le_refl _) ok), rest_set h.re e hpR, by rw [upS_ne hpR.symm]; exact h.hR⟩, hx⟩
  obtain ⟨q1, q2⟩ := h.fr b o h1 h2 h3
  have hb : b ≠ p := fun z => by subst z; rw [hn] at q1; cases q1
  exact ⟨by rw [e b hb]; exact q1, by rw [upS_ne hb]; exact q2⟩
theorem stp_chg (h : Stp n R Sg G M Sg' G' M' B) (hk : Sg' p = some k) (e : ∀ b, b ≠ p → M'' b = M' b) (f : M'' p = some (.lst xs)) (hB : B ≤ B') (ok : okL n Sg' G' B' k xs) : Stp n R Sg G M Sg' G' M'' B' := by
  have hpR : p ≠ R := fun z => by subst z; rw [h.hR] at hk; cases hk
  refine ⟨h.E, h.x, fun b o h1 h2 h3 => ?_, h.st.chg hB e f hk ok, rest_set h.re e hpR, h.hR⟩
  obtain ⟨q1, q2⟩ := h.fr b o h1 h2 h3
  have hb : b ≠ p := fun z => by subst z; rw [hk] at q2; cases q2
  exact ⟨by rw [e b hb]; exact q1, q2⟩
theorem stp_up (h : Stp n R Sg G M Sg' G' M' B) (hB : B ≤ B') : Stp n R Sg G M Sg' G' M' B' := ⟨h.E, h.x, h.fr, h.st.up (Same.refl _) hB, h.re, h.hR⟩
end
section
variable {P : Program} {w : World} {K : PySem.W.Frag} {mg : Str → Option Value} {base : Heap}
def sp_l_rowsM : Sp := newSp (fun (n : Nat) vs _ => ∃ v, vs = [v] ∧ v = .int (n : Int) ∧ n ≤ 8) (fun n xs G => All2 rTI G (plainM n) xs)
theorem ok_l_rowsM (T : Bt mg) (F : Dfn K mg "_law_rows" s_l_rows) : Has P w K mg base 1 "_law_rows" ["_law_wires"] sp_l_rowsM := by
  refine F.ok sc_l_rows (fun _ _ _ _ _ _ us hl => match us, hl with | [_], _ => rfl) (fun vs H Q E h => by obtain ⟨_, _, _, _, ⟨_, rfl, _⟩, _⟩ := h; rfl) (fun f cdv A outer s H vs Q E hr h => ?_)
  obtain ⟨G, M, n, S, ⟨v, rfl, rfl, hn⟩, k⟩ := h
  refine ⟨_, (pss_cons (ps_set (i := 1) sc_l_rows.nd rfl (Or.inl rfl) (pe_lst (pa_cons (pe_tup pa_nil) pa_nil)))
    (pss_cons (ps_for PassesOwn.never rfl (pi_range1 (by rfl) T.range (pa_cons (pv 0) pa_nil)) (pg_name (i := 2) sc_l_rows.nd rfl (Or.inl rfl))
     (pss_cons (ps_set (i := 3) sc_l_rows.nd rfl (Or.inl rfl) (pe_lst pa_nil))
     (pss_cons (ps_for PassesOwn.never rfl (piL K (pv 1)) (pg_name (i := 4) sc_l_rows.nd rfl (Or.inl rfl))
      (pss_cons (ps_expr (pe_bm PySem.F.plainAttrs_list PySem.F.slot_list_append PySem.F.type_list_append mt_append (pv 3) (pa_cons (pe_op (catA K) (pv 4) (pe_tup (pa_cons pe_int pa_nil))) pa_nil)))
      (pss_one (ps_expr (pe_bm PySem.F.plainAttrs_list PySem.F.slot_list_append PySem.F.type_list_append mt_append (pv 3) (pa_cons (pe_op (catA K) (pv 4) (pe_tup (pa_cons pe_int pa_nil))) pa_nil))))))
     (pss_one (ps_set (i := 1) sc_l_rows.nd rfl (Or.inl rfl) (pv 3))))))
    (pss_one (ps_ret (pv 1))))), ?_⟩
  walk_at "rd"
  apply rd_lst
  walk_at "rd"
  refine al_tup S (by walk_at "gv") (by simp) (fun p0 G1 H1 E1 S1 f1 => ?_)
  walk_at "rd"
  refine ⟨by simp [sizeLine_eq], fun p1 hp1 => ?_⟩
  obtain ⟨M2, e2, S2, f2⟩ := S1.addM (o := .lst [.ref p0]) hp1
  walk_at "rd"
  refine loopR (n := n) (fun i σ G' M' => ∃ a x y z xs, σ = [some (.int n), some (.ref a), x, y, z] ∧ Same G G' ∧ (∀ b, b ≠ a → M' b = M b) ∧ M a = none ∧ M' a = some (.lst xs) ∧ All2 rTI G' (plainM i) xs) S2 (by walk_at "gv") (by omega)
    ⟨p1, _, _, _, _, rfl, E1, e2, S1.fm hp1, f2, All2.nil.cons ⟨p0, rfl, f1⟩⟩ (fun i σ G3 M3 H3 hi hI S3 => ?_) (fun σ G3 M3 H3 hI S3 => ?_)
  · obtain ⟨a, x, y, z, xs, rfl, E3, e3, na, fa, al⟩ := hI
    walk_at "rd"
    refine al_lstM S3 (by walk_at "gv") (by simp) (fun pl M4 H4 e4 S4 f4 n4 _ => ?_)
    have hap : a ≠ pl := fun z => by subst z; rw [n4] at fa; cases fa
    walk_at "rd"
    refine loopL xs (fun j σ G' M' => ∃ x z acc, σ = [some (.int n), some (.ref a), x, some (.ref pl), z] ∧ Same G3 G' ∧ (∀ b, b ≠ pl → M' b = M3 b) ∧ M' pl = some (.lst acc) ∧ All2 rTI G' (((plainM i).take j).flatMap fun r => [r ++ [0], r ++ [1]]) acc)
      S4 (by walk_at "gv") ⟨_, _, [], rfl, Same.refl _, e4, f4, All2.nil⟩ (fun j σ G' M' hI H' S' => ?_) (fun j x3 σ G' M' H' hx3 hI S' => ?_) (fun σ G' M' H' hI S' => ?_)
    · obtain ⟨_, _, _, rfl, E', e', _⟩ := hI
      exact S'.m _ _ (by rw [e' _ hap]; exact fa)
    · obtain ⟨x, z, acc, rfl, E', e', f', al'⟩ := hI
      obtain ⟨r, er, b, eb, fb⟩ := al.at hx3
      subst eb
      have hrl := plainM_row i r (List.mem_of_getElem? er)
      have hj : j < (plainM i).length := (List.getElem?_eq_some_iff.mp er).1
      have hb' := E' _ _ fb
      have hacc : acc.length ≤ 2 * j := by
        rw [al'.len, fm2_len, List.length_take]
        omega
      have hpl := plainM_len i
      have hle : 2 ^ i ≤ 2 ^ 8 := Nat.pow_le_pow_right (by decide) (by omega)
      walk_at "rd"
      refine ⟨ty_lst (S'.m _ _ f'), ?_⟩
      walk_at "rd"
      refine al_tup S' (by walk_at "gv") (by simp [sizeLine_eq]) (fun p G5 H5 E5 S5 f5 => ?_)
      refine al_catT S5 (E5 _ _ hb') f5 (by simp [sizeLine_eq, hrl]; omega) (fun l G6 H6 E6 S6 f6 => ?_)
      walk_at "rd"
      refine rd_appM S6 f' (by rw [sizeLine_eq]; omega) (fun M7 H7 e7 S7 f7 => ?_)
      walk_at "rd"
      refine ⟨ty_lst (S7.m _ _ f7), ?_⟩
      walk_at "rd"
      refine al_tup S7 (by walk_at "gv") (by simp [sizeLine_eq]) (fun p2 G8 H8 E8 S8 f8 => ?_)
      refine al_catT S8 (E8 _ _ (E6 _ _ (E5 _ _ hb'))) f8 (by simp [sizeLine_eq, hrl]; omega) (fun l2 G9 H9 E9 S9 f9 => ?_)
      walk_at "rd"
      refine rd_appM S9 f7 (by rw [List.length_append, sizeLine_eq]; simp; omega) (fun M10 H10 e10 S10 f10 => ?_)
      have E69 := E8.trans E9
      have E59 := (E5.trans E6).trans E69
      refine ⟨_, _, S10, _, _, _, rfl, E'.trans E59, fun b hb => by rw [e10 b hb, e7 b hb, e' b hb], f10, ?_⟩
      rw [take_push er, List.flatMap_append]
      have h10 : All2 rTI G9 [r ++ [0], r ++ [1]] [V.ref l, V.ref l2] := All2.cons ⟨l, rfl, E69 _ _ (by simpa using f6)⟩ (All2.cons ⟨l2, rfl, by simpa using f9⟩ All2.nil)
      have h11 := (al'.up up_TI E59).append h10
      simpa using h11
    · obtain ⟨x, z, acc, rfl, E', e', f', al'⟩ := hI
      obtain ⟨G5, E5, S5, f5⟩ := S'.close (p := a) (by rw [e' _ hap]; exact fa)
      walk_at "rd"
      rw [al.len, List.take_length] at al'
      refine ⟨G5, _, S5, pl, _, _, _, acc, rfl, (E3.trans E').trans E5, fun b hb => ?_, by rw [← e3 _ hap.symm]; exact n4, by rw [del_ne hap.symm]; exact f', al'.up up_TI E5⟩
      by_cases hba : b = a
      · subst hba; rw [del_same, na]
      · rw [del_ne hba, e' b hb, e3 b hba]
  · obtain ⟨a, x, y, z, xs, rfl, E3, e3, na, fa, al⟩ := hI
    walk_at "rd"
    exact k _ _ _ _ _ E3 e3 na S3 fa al
def sp_l_change_level : Sp := stoSp (fun (x : Addr × Nat) _ Sg R vs => vs = [.ref x.1, .int (x.2 : Int), .ref R] ∧ Sg x.1 = some .level ∧ 1 ≤ x.2 ∧ x.2 ≤ 4)
theorem ok_l_change_level (T : Bt mg) (F : Dfn K mg "_law_change_level" s_l_change_level) (h_l_draw : Has P w K mg base 1 "_law_draw" ["_law_rest", "_law_limit"] sp_l_draw) (h_l_rows : Has P w K mg base 1 "_law_rows" ["_law_wires"] sp_l_rowsM)
    (h_l_change_state : Has P w K mg base 3 "_law_change_state" ["_law_rows_here", "_law_wires", "_law_rest"] sp_l_change_state) (h_l_change_covers : Has P w K mg base 3 "_law_change_covers" ["_law_covers", "_law_wires", "_law_rest"] sp_l_change_covers) :
    Has P w K mg base 4 "_law_change_level" ["_law_level", "_law_wires", "_law_rest"] sp_l_change_level := by
  refine F.ok sc_l_change_level (fun _ _ _ _ _ _ us hl => match us, hl with | [_, _, _], _ => rfl) (fun vs H Q E h => by obtain ⟨_, _, _, _, _, _, _, _, _, _, _, _, _, ⟨rfl, _⟩, _⟩ := h; rfl) (fun f cdv A outer s H vs Q E hr h => ?_)
  obtain ⟨G, M, R, n, Sg, B, ⟨ca, wn⟩, S, hR, hSR, st, hB, hB9, ⟨rfl, hca, hwn1, hwn⟩, k⟩ := h
  dsimp only at hca hwn hwn1
  obtain ⟨xs, hxs, hxl, hxe⟩ := st ca _ hca
  have hne : ca ≠ R := fun z => by subst z; rw [hSR] at hca; cases hca
  have st0 := stp_refl st hR hSR
  have fin : ∀ (G' M' H' : Hp) (Sg' : Sig), Stp n R Sg G M Sg' G' M' (B + 1) → Hs G' M' H' → Q .non H' := fun G' M' H' Sg' h S' => k G' M' H' Sg' h.E S' h.re h.hR h.x h.fr h.st
  refine ⟨_, (pss_cons (ps_set (i := 3) sc_l_change_level.nd rfl (Or.inl rfl) (pe_fn h_l_draw hr (pa_cons (pv 2) (pa_cons pe_int pa_nil))))
    (pss_cons (ps_set (i := 4) sc_l_change_level.nd rfl (Or.inl rfl) (pe_fn h_l_draw hr (pa_cons (pv 2) (pa_cons (pe_op op_add (pe_callB (lenS K) (by rfl) T.len PySem.boot_len (pa_cons (pv 0) pa_nil)) pe_int) pa_nil))))
    (pss_one (ps_if (PW.pt (pw_or (pt_cmpR op_eq (pv 3) pe_int (nomark _)) (pw_or1 (pt_cmpR op_eq (pv 4) (pe_callB (lenS K) (by rfl) T.len PySem.boot_len (pa_cons (pv 0) pa_nil)) (nomark _)))))
     (pss_one (ps_expr (pe_bm PySem.F.plainAttrs_list PySem.F.slot_list_insert PySem.F.type_list_insert mt_insert (pv 0) (pa_cons (pv 4) (pa_cons (pe_lst (pa_cons (pe_fn h_l_rows hr (pa_cons (pv 1) pa_nil)) (pa_cons (pe_lst pa_nil) pa_nil))) pa_nil)))))
     (pss_one (ps_if (pt_cmpR op_eq (pv 3) pe_int (nomark _))
      (pss_one (ps_expr (pe_bm PySem.F.plainAttrs_list PySem.F.slot_list_pop PySem.F.type_list_pop mt_popAt (pv 0) (pa_cons (pv 4) pa_nil))))
      (pss_one (ps_if (pt_cmpR op_eq (pv 3) pe_int (nomark _))
       (pss_one (ps_expr (pe_bm PySem.F.plainAttrs_list PySem.F.slot_list_insert PySem.F.type_list_insert mt_insert (pv 0) (pa_cons (pv 4) (pa_cons (pe_lst (pa_cons (pe_callTy (lstO K) (by rfl) T.list (by decide +kernel) (pa_cons (pe_ix (ixL K) (pe_ix (ixL K) (pv 0) (pv 4) (fun _ _ => rfl)) pe_int (fun _ _ => rfl)) pa_nil)) (pa_cons (pe_callTy (lstO K) (by rfl) T.list (by decide +kernel) (pa_cons (pe_ix (ixL K) (pe_ix (ixL K) (pv 0) (pv 4) (fun _ _ => rfl)) pe_int (fun _ _ => rfl)) pa_nil)) pa_nil))) pa_nil)))))
       (pss_one (ps_if (pt_cmpR op_lt (pv 3) pe_int (nomark _))
        (pss_one (ps_expr (pe_fn h_l_change_state hr (pa_cons (pe_ix (ixL K) (pe_ix (ixL K) (pv 0) (pv 4) (fun _ _ => rfl)) pe_int (fun _ _ => rfl)) (pa_cons (pv 1) (pa_cons (pv 2) pa_nil))))))
        (pss_one (ps_expr (pe_fn h_l_change_covers hr (pa_cons (pe_ix (ixL K) (pe_ix (ixL K) (pv 0) (pv 4) (fun _ _ => rfl)) pe_int (fun _ _ => rfl)) (pa_cons (pv 1) (pa_cons (pv 2) pa_nil)))))))))))))))), ?_⟩
  walk_at "rd"
  refine ⟨G, M, R, 8, S, hR, ⟨_, _, rfl, rfl, rfl, by decide⟩, fun v G1 M1 H1 E1 O1 R1 S1 ⟨c, ec, c0, c1⟩ => ?_⟩
  subst ec
  have f1 : M1 ca = some (.lst xs) := by rw [O1 _ hne]; exact hxs
  have st1 := stp_draw st0 E1 O1 R1
  walk_at "rd"
  refine ⟨G1, M1, R, xs.length + 1, S1, R1, ⟨_, _, rfl, rfl, rfl, by omega⟩, fun v G2 M2 H2 E2 O2 R2 S2 ⟨d, ed, d0, d1⟩ => ?_⟩
  subst ed
  have f2 : M2 ca = some (.lst xs) := by rw [O2 _ hne]; exact f1
  have st2 := stp_draw st1 E2 O2 R2
  walk_at "rd"
  refine rd_ite (fun h0 => ?ca) (fun h0 => ?cb)
  case' ca =>
    refine iteT ?_
  case' cb =>
    walk_at "rd"
    refine rd_ite (fun h0b => ?ca2) (fun h0b => ?cc)
  case cc =>
    have hlt : d < xs.length := by omega
    obtain ⟨y, hay, hgy, hmy⟩ := at_mem d0 hlt
    obtain ⟨pa, rfl, hpa⟩ := hxe y hmy
    obtain ⟨ps, hps, q1, q2, rfl, hq1, hq2⟩ := st2.st pa _ hpa
    obtain ⟨rs, hrs, hrl, hre⟩ := st2.st q1 _ hq1
    obtain ⟨cs, hcs, hcl, hce⟩ := st2.st q2 _ hq2
    have hp0 : atI [V.ref q1, V.ref q2] 0 = some (.ref q1) := rfl
    have hp1 : atI [V.ref q1, V.ref q2] 1 = some (.ref q2) := rfl
    walk_at "rd"
    refine rd_ite (fun h1 => ?_) (fun h1 => ?_)
    · walk_at "rd"
      refine ⟨ty_lst (S2.m _ _ f2), ?_⟩
      walk_at "rd"
      refine rd_popM S2 f2 d0 hlt (by omega) (fun y M3 H3 hy e3 S3 f3 => ?_)
      exact fin G2 M3 H3 Sg (stp_chg st2 hca e3 f3 (Nat.le_succ _) ⟨Nat.le_trans (erase_le _ _) (by omega), del_all _ hxe⟩) S3
    walk_at "rd"
    refine rd_ite (fun h2 => ?_) (fun h2 => ?_)
    · walk_at "rd"
      refine ⟨ty_lst (S2.m _ _ f2), ?_⟩
      walk_at "rd"
      apply rd_lst
      walk_at "rd"
      refine al_lsLM S2 (S2.m _ _ hrs) (fun l1 M3 H3 e3 S3 f3 n3 _ => ?_)
      obtain ⟨st3, x3⟩ := stp_new (k := .rows) st2 n3 e3 f3 ⟨hrl, hre⟩
      have hc1 : ca ≠ l1 := fun z => by subst z; rw [n3] at f2; cases f2
      have hp1' : pa ≠ l1 := fun z => by subst z; rw [n3] at hps; cases hps
      have hq2' : q2 ≠ l1 := fun z => by subst z; rw [n3] at hcs; cases hcs
      have g1 : M3 ca = some (.lst xs) := by rw [e3 _ hc1]; exact f2
      have g2 : M3 pa = some (.lst [.ref q1, .ref q2]) := by rw [e3 _ hp1']; exact hps
      have g3 : M3 q2 = some (.lst cs) := by rw [e3 _ hq2']; exact hcs
      walk_at "rd"
      refine al_lsLM S3 (S3.m _ _ g3) (fun l2 M4 H4 e4 S4 f4 n4 _ => ?_)
      obtain ⟨st4, x4⟩ := stp_new (k := .covs) st3 n4 e4 f4 ⟨hcl, hce⟩
      have hc2 : ca ≠ l2 := fun z => by subst z; rw [n4] at g1; cases g1
      have g4 : M4 ca = some (.lst xs) := by rw [e4 _ hc2]; exact g1
      walk_at "rd"
      refine ⟨by simp [sizeLine_eq], fun l3 hl3 => ?_⟩
      obtain ⟨M5, e5, S5, f5⟩ := S4.addM (o := .lst [.ref l1, .ref l2]) hl3
      obtain ⟨st5, x5⟩ := stp_new (k := .pair) st4 (S4.fm hl3) e5 f5 ⟨l1, l2, rfl, x4 _ _ upS_same (by intro s z; cases z), upS_same⟩
      have hc3 : ca ≠ l3 := fun z => by subst z; rw [S4.fm hl3] at g4; cases g4
      have g5 : M5 ca = some (.lst xs) := by rw [e5 _ hc3]; exact g4
      walk_at "rd"
      refine rd_insM S5 g5 (by rw [sizeLine_eq]; omega) d0 (by omega) (fun M6 H6 e6 S6 f6 => ?_)
      have x35 := (x3.trans x4).trans x5
      exact fin G2 M6 H6 _ (stp_chg st5 (x35 _ _ hca (by intro s z; cases z)) e6 f6 (Nat.le_succ _) ⟨by rw [ins_len]; omega, ins_all _ (fun x hx => by obtain ⟨a, h1, h2⟩ := hxe x hx; exact ⟨a, h1, x35 _ _ h2 (by intro s z; cases z)⟩) ⟨l3, rfl, upS_same⟩⟩) S6
    walk_at "rd"
    refine rd_ite (fun h3 => ?_) (fun h3 => ?_)
    · walk_at "rd"
      refine ⟨G2, M2, R, n, Sg, B, (q1, wn), S2, R2, hSR, st2.st, hB, hB9, ⟨rfl, hq1, hwn1, by omega⟩, fun G3 M3 H3 Sg3 E3 S3 R3 hR3 x3 fr3 st3 => ?_⟩
      exact k G3 M3 H3 Sg3 (st2.E.trans E3) S3 R3 hR3 x3 (fun b o a1 a2 a3 => let ⟨b1, b2⟩ := st2.fr b o a1 a2 a3; fr3 b o b2 a2 b1) st3
    · walk_at "rd"
      refine ⟨G2, M2, R, n, Sg, B, (q2, wn), S2, R2, hSR, st2.st, hB, hB9, ⟨rfl, hq2, hwn1, by omega⟩, fun G3 M3 H3 Sg3 E3 S3 R3 hR3 x3 fr3 st3 => ?_⟩
      exact k G3 M3 H3 Sg3 (st2.E.trans E3) S3 R3 hR3 x3 (fun b o a1 a2 a3 => let ⟨b1, b2⟩ := st2.fr b o a1 a2 a3; fr3 b o b2 a2 b1) st3
  all_goals
    walk_at "rd"
    refine ⟨ty_lst (S2.m _ _ f2), ?_⟩
    walk_at "rd"
    apply rd_lst
    walk_at "rd"
    refine ⟨G2, M2, wn, S2, ⟨_, rfl, rfl, by omega⟩, fun l1 ys G3 M3 H3 E3 e3 n3 S3 f3 al3 => ?_⟩
    have hpl := plainM_len wn
    have hle : 2 ^ wn ≤ 2 ^ 4 := Nat.pow_le_pow_right (by decide) hwn
    have st2' := stp_same st2 E3
    obtain ⟨st3, x3⟩ := stp_new (k := .rows) st2' n3 e3 f3 ⟨by rw [al3.len]; omega, fun x hx => by
      obtain ⟨i, hi⟩ := List.getElem?_of_mem hx
      obtain ⟨r, er, hr⟩ := al3.at hi
      exact ⟨r, hr, by rw [plainM_row wn r (List.mem_of_getElem? er)]; omega⟩⟩
    have hc1 : ca ≠ l1 := fun z => by subst z; rw [n3] at f2; cases f2
    have g1 : M3 ca = some (.lst xs) := by rw [e3 _ hc1]; exact f2
    walk_at "rd"
    refine al_lstM S3 (by walk_at "gv") (by simp) (fun l2 M4 H4 e4 S4 f4 n4 _ => ?_)
    obtain ⟨st4, x4⟩ := stp_new (k := .covs) st3 n4 e4 f4 ⟨Nat.zero_le _, fun x hx => by cases hx⟩
    have hc2 : ca ≠ l2 := fun z => by subst z; rw [n4] at g1; cases g1
    have g4 : M4 ca = some (.lst xs) := by rw [e4 _ hc2]; exact g1
    walk_at "rd"
    refine ⟨by simp [sizeLine_eq], fun l3 hl3 => ?_⟩
    obtain ⟨M5, e5, S5, f5⟩ := S4.addM (o := .lst [.ref l1, .ref l2]) hl3
    obtain ⟨st5, x5⟩ := stp_new (k := .pair) st4 (S4.fm hl3) e5 f5 ⟨l1, l2, rfl, x4 _ _ upS_same (by intro s z; cases z), upS_same⟩
    have hc3 : ca ≠ l3 := fun z => by subst z; rw [S4.fm hl3] at g4; cases g4
    have g5 : M5 ca = some (.lst xs) := by rw [e5 _ hc3]; exact g4
    walk_at "rd"
    refine rd_insM S5 g5 (by rw [sizeLine_eq]; omega) d0 (by omega) (fun M6 H6 e6 S6 f6 => ?_)
    have x35 := (x3.trans x4).trans x5
    exact fin G3 M6 H6 _ (stp_chg st5 (x35 _ _ hca (by intro s z; cases z)) e6 f6 (Nat.le_succ _) ⟨by rw [ins_len]; omega, ins_all _ (fun x hx => by obtain ⟨a, h1, h2⟩ := hxe x hx; exact ⟨a, h1, x35 _ _ h2 (by intro s z; cases z)⟩) ⟨l3, rfl, upS_same⟩⟩) S6
end
end N
/-! LR: the law: changes, told -/
namespace N
open PySem L2
section
variable {P : Program} {w : World} {K : PySem.W.Frag} {mg : Str → Option Value} {base : Heap}
theorem stp_trans {n B B' : Nat} {R : Addr} {Sg Sg1 Sg2 : Sig} {G M G1 M1 G2 M2 : Hp} (h : Stp n R Sg G M Sg1 G1 M1 B) (k : Stp n R Sg1 G1 M1 Sg2 G2 M2 B') : Stp n R Sg G M Sg2 G2 M2 B' :=
  ⟨h.E.trans k.E, h.x.trans k.x, fun b o a1 a2 a3 => let ⟨b1, b2⟩ := h.fr b o a1 a2 a3; k.fr b o b2 a2 b1, k.st, k.re, k.hR⟩
theorem del_new {M M' : Hp} {D p : Addr} {o : HO} (hD : D ≠ p) (e : ∀ b, b ≠ p → M' b = M b) (f : M' p = some o) (n : M p = none) : (∀ b, b ≠ p → del M' D b = del M D b) ∧ del M' D p = some o ∧ del M D p = none := by
  refine ⟨fun b hb => ?_, by rw [del_ne hD.symm]; exact f, by rw [del_ne hD.symm]; exact n⟩
  by_cases h : b = D
  · subst h; rw [del_same, del_same]
  · rw [del_ne h, del_ne h, e b hb]
theorem kept_del {M M' : Hp} {D : Addr} (h : Kept M (del M' D)) : Kept M M' := fun b o hb => by
  have e := h b o hb
  have hn : b ≠ D := fun z => by subst z; rw [del_same] at e; cases e
  rw [del_ne hn] at e
  exact e
theorem rd_yes {σ : L2.St} {H : Hp} {R : Bool → Hp → Prop} (h : R true H) : tYes σ H R := h
structure TreeOk (Sg : Sig) (R tr ca la : Addr) : Prop where
  r : tr ≠ R
  t : Sg tr = none
  c : Sg ca = some .cmps
  l : Sg la = some .levels
theorem TreeOk.up {Sg Sg' : Sig} {R tr ca la : Addr} (h : TreeOk Sg R tr ca la) (x : Ext Sg Sg') (n : Sg' tr = none) : TreeOk Sg' R tr ca la := ⟨h.r, n, x _ _ h.c (by intro s z; cases z), x _ _ h.l (by intro s z; cases z)⟩
def sp_l_change : Sp := fun vs H Q _ => ∃ (G M : Hp) (R tr ca la : Addr) (n : Nat) (Sg : Sig) (B wn : Nat) (wd : Str), Hs G M H ∧ Rest M R ∧ Sg R = none ∧ Sto n Sg G M B ∧ 16 ≤ B ∧ B ≤ 900 ∧ vs = [.ref tr, .int (wn : Int), .ref R] ∧ TreeOk Sg R tr ca la ∧ M tr = some (.lst [.str wd, .ref ca, .ref la]) ∧ 1 ≤ wn ∧ wn ≤ 4 ∧
  ∀ G' M' H' Sg' wd', Same G G' → Hs G' M' H' → Rest M' R → Sg' R = none → Sto n Sg' G' M' (B + 1) → TreeOk Sg' R tr ca la → M' tr = some (.lst [.str wd', .ref ca, .ref la]) → Q .non H'
theorem ok_l_change (T : Bt mg) (F : Dfn K mg "_law_change" s_l_change) (h_l_draw : Has P w K mg base 1 "_law_draw" ["_law_rest", "_law_limit"] sp_l_draw) (h_l_change_comparers : Has P w K mg base 3 "_law_change_comparers" ["_law_comparers_here", "_law_wires", "_law_rest"] sp_l_change_comparers)
    (h_l_change_level : Has P w K mg base 4 "_law_change_level" ["_law_level", "_law_wires", "_law_rest"] sp_l_change_level) : Has P w K mg base 5 "_law_change" ["_law_tree", "_law_wires", "_law_rest"] sp_l_change := by
  refine F.ok sc_l_change (fun _ _ _ _ _ _ us hl => match us, hl with | [_, _, _], _ => rfl) (fun vs H Q E h => by obtain ⟨_, _, _, _, _, _, _, _, _, _, _, _, _, _, _, _, _, rfl, _⟩ := h; rfl) (fun f cdv A outer s H vs Q E hr h => ?_)
  obtain ⟨G, M, R, tr, ca, la, n, Sg, B, wn, wd, S, hR, hSR, st, hB, hB9, rfl, tok, htr, hwn1, hwn, k⟩ := h
  obtain ⟨xs, hxs, hxl, hxe⟩ := st la _ tok.l
  have hne : la ≠ R := fun z => by
    have h1 := tok.l
    subst z
    rw [hSR] at h1
    cases h1
  have st0 := stp_refl st hR hSR
  have fin : ∀ (G' M' H' : Hp) (Sg' : Sig), Stp n R Sg G M Sg' G' M' (B + 1) → Hs G' M' H' → Q .non H' := fun G' M' H' Sg' h S' => by
    obtain ⟨q1, q2⟩ := h.fr tr _ tok.t tok.r htr
    exact k G' M' H' Sg' wd h.E S' h.re h.hR h.st (tok.up h.x q2) q1
  have ht0 : atI [V.str wd, V.ref ca, V.ref la] 1 = some (.ref ca) := rfl
  have ht1 : atI [V.str wd, V.ref ca, V.ref la] 2 = some (.ref la) := rfl
  refine ⟨_, (pss_cons (ps_set (i := 3) sc_l_change.nd rfl (Or.inl rfl) (pe_fn h_l_draw hr (pa_cons (pv 2) (pa_cons pe_int pa_nil))))
    (pss_cons (ps_set (i := 4) sc_l_change.nd rfl (Or.inl rfl) (pe_fn h_l_draw hr (pa_cons (pv 2) (pa_cons (pe_op op_add (pe_callB (lenS K) (by rfl) T.len PySem.boot_len (pa_cons (pe_ix (ixL K) (pv 0) pe_int (fun _ _ => rfl)) pa_nil)) pe_int) pa_nil))))
    (pss_one (ps_if (pt_cmpR op_eq (pv 3) pe_int (nomark _))
     (pss_one (ps_asg (pe_ix (ixL K) (pe_lst (pa_cons pe_str (pa_cons pe_str pa_nil))) (pe_fn h_l_draw hr (pa_cons (pv 2) (pa_cons pe_int pa_nil))) (fun _ _ => rfl)) (pg_sub (pv 0) pe_int set_list)))
     (pss_one (ps_if (pt_cmpR op_lt (pv 3) pe_int (nomark _))
      (pss_one (ps_expr (pe_fn h_l_change_comparers hr (pa_cons (pe_ix (ixL K) (pv 0) pe_int (fun _ _ => rfl)) (pa_cons (pv 1) (pa_cons (pv 2) pa_nil))))))
      (pss_one (ps_if (PW.pt (pw_or (pt_cmpR op_eq (pv 3) pe_int (nomark _)) (pw_or1 (pt_cmpR op_eq (pv 4) (pe_callB (lenS K) (by rfl) T.len PySem.boot_len (pa_cons (pe_ix (ixL K) (pv 0) pe_int (fun _ _ => rfl)) pa_nil)) (nomark _)))))
       (pss_one (ps_expr (pe_bm PySem.F.plainAttrs_list PySem.F.slot_list_insert PySem.F.type_list_insert mt_insert (pe_ix (ixL K) (pv 0) pe_int (fun _ _ => rfl)) (pa_cons (pv 4) (pa_cons (pe_lst pa_nil) pa_nil)))))
       (pss_one (ps_if (pt_cmpR op_eq (pv 3) pe_int (nomark _))
        (pss_one (ps_expr (pe_bm PySem.F.plainAttrs_list PySem.F.slot_list_pop PySem.F.type_list_pop mt_popAt (pe_ix (ixL K) (pv 0) pe_int (fun _ _ => rfl)) (pa_cons (pv 4) pa_nil))))
        (pss_one (ps_if (pt_cmpR op_eq (pv 3) pe_int (nomark _))
         (pss_one (ps_expr (pe_bm PySem.F.plainAttrs_list PySem.F.slot_list_insert PySem.F.type_list_insert mt_insert (pe_ix (ixL K) (pv 0) pe_int (fun _ _ => rfl)) (pa_cons (pv 4) (pa_cons (pe_lc (own := [("_law_pair", 5)]) rfl sc_l_change.nd (piL K (pe_ix (ixL K) (pe_ix (ixL K) (pv 0) pe_int (fun _ _ => rfl)) (pv 4) (fun _ _ => rfl))) (blkOk_by (N := ["_law_tree", "_law_wires", "_law_rest", "_law_choice", "_law_at", "_law_pair"]) (sc := defScope s_l_change) (by decide +kernel)) (fun _ _ _ _ _ => (pg_name (i := 5) sc_l_change.nd rfl (Or.inl rfl))) (fun _ _ _ _ _ => pts_nil) (fun _ _ _ _ _ => (pe_lst (pa_cons (pe_callTy (lstO K) (by rfl) T.list (by decide +kernel) (pa_cons (pe_ix (ixL K) (pv 5) pe_int (fun _ _ => rfl)) pa_nil)) (pa_cons (pe_callTy (lstO K) (by rfl) T.list (by decide +kernel) (pa_cons (pe_ix (ixL K) (pv 5) pe_int (fun _ _ => rfl)) pa_nil)) pa_nil))))) pa_nil)))))
         (pss_one (ps_expr (pe_fn h_l_change_level hr (pa_cons (pe_ix (ixL K) (pe_ix (ixL K) (pv 0) pe_int (fun _ _ => rfl)) (pv 4) (fun _ _ => rfl)) (pa_cons (pv 1) (pa_cons (pv 2) pa_nil)))))))))))))))))), ?_⟩
  walk_at "rd"
  refine ⟨G, M, R, 10, S, hR, ⟨_, _, rfl, rfl, rfl, by decide⟩, fun v G1 M1 H1 E1 O1 R1 S1 ⟨c, ec, c0, c1⟩ => ?_⟩
  subst ec
  have f1 : M1 la = some (.lst xs) := by rw [O1 _ hne]; exact hxs
  have g1 : M1 tr = some (.lst [.str wd, .ref ca, .ref la]) := by rw [O1 _ tok.r]; exact htr
  have st1 := stp_draw st0 E1 O1 R1
  walk_at "rd"
  refine ⟨G1, M1, R, xs.length + 1, S1, R1, ⟨_, _, rfl, rfl, rfl, by omega⟩, fun v G2 M2 H2 E2 O2 R2 S2 ⟨d, ed, d0, d1⟩ => ?_⟩
  subst ed
  have f2 : M2 la = some (.lst xs) := by rw [O2 _ hne]; exact f1
  have g2 : M2 tr = some (.lst [.str wd, .ref ca, .ref la]) := by rw [O2 _ tok.r]; exact g1
  have st2 := stp_draw st1 E2 O2 R2
  walk_at "rd"
  refine rd_ite (fun h0 => ?_) (fun h0 => ?_)
  · walk_at "rd"
    refine al_lst S2 (by walk_at "gv") (by simp [sizeLine_eq]) (fun q1 G3 H3 E3 S3 f3 => ?_)
    walk_at "rd"
    refine ⟨G3, M2, R, 2, S3, R2, ⟨_, _, rfl, rfl, rfl, by decide⟩, fun v G4 M4 H4 E4 O4 R4 S4 ⟨i1, ei1, i0, i2⟩ => ?_⟩
    subst ei1
    have hz : ∃ z : Str, atI [V.str "fewest", V.str "layers"] i1 = some (.str z) := by
      have hc : i1 = 0 ∨ i1 = 1 := by omega
      rcases hc with rfl | rfl
      · exact ⟨_, rfl⟩
      · exact ⟨_, rfl⟩
    obtain ⟨z, hz⟩ := hz
    have f3' := E4 _ _ f3
    have g4 : M4 tr = some (.lst [.str wd, .ref ca, .ref la]) := by rw [O4 _ tok.r]; exact g2
    walk_at "rd"
    refine rd_setM S4 g4 (show ixN _ 0 = some 0 from rfl) (fun M5 H5 e5 S5 f5 => ?_)
    have st4 := stp_draw (stp_same st2 E3) E4 O4 R4
    exact k G4 M5 H5 Sg z st4.E S5 (rest_set R4 e5 tok.r) hSR ((st4.st.up (Same.refl _) (Nat.le_succ _)).off fun b kd hk => e5 b fun z => by subst z; rw [tok.t] at hk; cases hk) tok f5
  walk_at "rd"
  refine rd_ite (fun h1 => ?_) (fun h1 => ?_)
  · walk_at "rd"
    refine ⟨G2, M2, R, n, Sg, B, (ca, wn), S2, R2, hSR, st2.st, hB, hB9, ⟨rfl, tok.c, by dsimp only; omega⟩, fun G3 M3 H3 Sg3 E3 S3 R3 hR3 x3 fr3 st3 => ?_⟩
    obtain ⟨q1, q2⟩ := fr3 tr _ tok.t tok.r g2
    exact k G3 M3 H3 Sg3 wd (st2.E.trans E3) S3 R3 hR3 st3 (tok.up x3 q2) q1
  walk_at "rd"
  refine rd_ite (fun h2 => ?ca) (fun h2 => ?cb)
  case' ca =>
    refine iteT ?_
  case' cb =>
    walk_at "rd"
    refine rd_ite (fun h2b => ?ca2) (fun h2b => ?cc)
  case cc =>
    have hlt : d < xs.length := by omega
    obtain ⟨y, hay, hgy, hmy⟩ := at_mem d0 hlt
    obtain ⟨L, rfl, hL⟩ := hxe y hmy
    obtain ⟨ys, hys, hyl, hye⟩ := st2.st L _ hL
    walk_at "rd"
    refine rd_ite (fun h4 => ?_) (fun h4 => ?_)
    · walk_at "rd"
      refine ⟨ty_lst (S2.m _ _ f2), ?_⟩
      walk_at "rd"
      refine rd_popM S2 f2 d0 hlt (by omega) (fun y M3 H3 hy e3 S3 f3 => ?_)
      exact fin G2 M3 H3 Sg (stp_chg st2 tok.l e3 f3 (Nat.le_succ _) ⟨Nat.le_trans (erase_le _ _) (by omega), del_all _ hxe⟩) S3
    walk_at "rd"
    refine rd_ite (fun h5 => ?_) (fun h5 => ?_)
    · walk_at "rd"
      refine ⟨ty_lst (S2.m _ _ f2), ?_⟩
      walk_at "rd"
      apply rd_cL
      walk_at "rd"
      have st22 := stp_refl (n := n) (B := B) st2.st R2 hSR
      refine leafLM (fun i G' M' acc => ∃ Sg', Stp n R Sg G2 M2 Sg' G' M' B ∧ Kept M2 M' ∧ acc.length = i ∧ ∀ v ∈ acc, ∃ a, v = .ref a ∧ Sg' a = some .pair) S2 gv_cE
        ⟨Sg, st22, Kept.refl _, rfl, fun v hv => by cases hv⟩ (fun i D G' M' H' acc S' hm hI => ?_) (S2.m _ _ hys) (fun i D x G' M' H' acc hx S' hm hI => ?_) (fun p G' M' acc H' hI S' hm => ?_)
      · obtain ⟨_, _, kp, _⟩ := hI
        exact S'.m _ _ (kept_del kp _ _ hys)
      · obtain ⟨Sg', stp, kp, hal, hae⟩ := hI
        have kp' := kept_del kp
        obtain ⟨pa, rfl, hpa⟩ := hye _ (List.mem_of_getElem? hx)
        obtain ⟨_, hps, q1, q2, rfl, hq1, hq2⟩ := st2.st pa _ hpa
        obtain ⟨rs, hrs, hrl, hre⟩ := st2.st q1 _ hq1
        obtain ⟨cs, hcs, hcl, hce⟩ := st2.st q2 _ hq2
        have hps' := kp' _ _ hps
        have hrs' := kp' _ _ hrs
        have hcs' := kp' _ _ hcs
        have hi : i < ys.length := (List.getElem?_eq_some_iff.mp hx).1
        have hp0 : atI [V.ref q1, V.ref q2] 0 = some (.ref q1) := rfl
        have hp1 : atI [V.ref q1, V.ref q2] 1 = some (.ref q2) := rfl
        have hpne : ∀ {M5 : Hp} {p : Addr} {o : HO}, M5 D = some o → M5 p = none → D ≠ p := fun h1 h2 z => by subst z; rw [h1] at h2; cases h2
        refine ⟨rfl, rd_yes (iteT ?_)⟩
        apply rd_lst
        walk_at "rd"
        refine al_lsLM S' (S'.m _ _ hrs') (fun l1 M3 H3 e3 S3 f3 n3 _ => ?_)
        have hD1 := hpne hm n3
        obtain ⟨a1, a2, a3⟩ := del_new hD1 e3 f3 n3
        have E2' : Same G2 G' := stp.E
        obtain ⟨st3, x3⟩ := stp_new (k := .rows) stp a3 a1 a2 ⟨hrl, fun x hx => by obtain ⟨r, h1, h2⟩ := hre x hx; exact ⟨r, up_TI _ _ _ _ E2' h1, h2⟩⟩
        have hm3 : M3 D = some (.lst acc) := by rw [e3 _ hD1]; exact hm
        have hp3 : pa ≠ l1 := fun z => by subst z; rw [n3] at hps'; cases hps'
        have hc3 : q2 ≠ l1 := fun z => by subst z; rw [n3] at hcs'; cases hcs'
        have g1 : M3 pa = some (.lst [.ref q1, .ref q2]) := by rw [e3 _ hp3]; exact hps'
        have g2' : M3 q2 = some (.lst cs) := by rw [e3 _ hc3]; exact hcs'
        walk_at "rd"
        refine al_lsLM S3 (S3.m _ _ g2') (fun l2 M4 H4 e4 S4 f4 n4 _ => ?_)
        have hD2 := hpne hm3 n4
        obtain ⟨b1, b2, b3⟩ := del_new hD2 e4 f4 n4
        obtain ⟨st4, x4⟩ := stp_new (k := .covs) st3 b3 b1 b2 ⟨hcl, fun x hx => by obtain ⟨r, h1, h2⟩ := hce x hx; exact ⟨r, up_Ent _ _ _ _ E2' h1, h2⟩⟩
        have hm4 : M4 D = some (.lst acc) := by rw [e4 _ hD2]; exact hm3
        walk_at "rd"
        refine ⟨by simp [sizeLine_eq], fun l3 hl3 => ?_⟩
        obtain ⟨M5, e5, S5, f5⟩ := S4.addM (o := .lst [.ref l1, .ref l2]) hl3
        have hD3 := hpne hm4 (S4.fm hl3)
        obtain ⟨c1', c2', c3'⟩ := del_new hD3 e5 f5 (S4.fm hl3)
        obtain ⟨st5, x5⟩ := stp_new (k := .pair) st4 c3' c1' c2' ⟨l1, l2, rfl, x4 _ _ upS_same (by intro s z; cases z), upS_same⟩
        have hm5 : M5 D = some (.lst acc) := by rw [e5 _ hD3]; exact hm4
        have x35 := (x3.trans x4).trans x5
        have kp5 : Kept M2 (del M5 D) := fun b o hb => by
          have q := kp b o hb
          have n1 : b ≠ l1 := fun z => by subst z; rw [a3] at q; cases q
          have q3 : del M3 D b = some o := by rw [a1 b n1]; exact q
          have n2 : b ≠ l2 := fun z => by subst z; rw [b3] at q3; cases q3
          have q4 : del M4 D b = some o := by rw [b1 b n2]; exact q3
          have n3' : b ≠ l3 := fun z => by subst z; rw [c3'] at q4; cases q4
          rw [c1' b n3']
          exact q4
        refine ⟨acc, S5.m _ _ hm5, by rw [sizeLine_eq]; omega, nc_push S5 hm5 ⟨_, st5, kp5, by rw [List.length_append, hal]; rfl, fun v hv => ?_⟩⟩
        rcases List.mem_append.mp hv with hv | hv
        · obtain ⟨a, h1, h2⟩ := hae v hv
          exact ⟨a, h1, x35 _ _ h2 (by intro s z; cases z)⟩
        · exact ⟨l3, List.mem_singleton.mp hv, upS_same⟩
      · obtain ⟨Sg', stp, kp, hal, hae⟩ := hI
        obtain ⟨st3, x3⟩ := stp_new (p := p) (M'' := M') (k := .level) stp del_same (fun b hb => (del_ne hb).symm) hm ⟨by omega, hae⟩
        have hlp : la ≠ p := fun z => by
          have := kp _ _ f2
          subst z
          rw [del_same] at this
          cases this
        have g4 : M' la = some (.lst xs) := kept_del kp _ _ f2
        walk_at "rd"
        refine rd_insM S' g4 (by rw [sizeLine_eq]; omega) d0 (by omega) (fun M6 H6 e6 S6 f6 => ?_)
        exact fin G' M6 H6 _ (stp_trans st2 (stp_chg st3 (st3.x _ _ tok.l (by intro s z; cases z)) e6 f6 (Nat.le_succ _) ⟨by rw [ins_len]; omega, ins_all _ (fun x hx => by obtain ⟨a, h1, h2⟩ := hxe x hx; exact ⟨a, h1, st3.x _ _ h2 (by intro s z; cases z)⟩) ⟨p, rfl, upS_same⟩⟩)) S6
    · walk_at "rd"
      refine ⟨G2, M2, R, n, Sg, B, (L, wn), S2, R2, hSR, st2.st, hB, hB9, ⟨rfl, hL, hwn1, hwn⟩, fun G3 M3 H3 Sg3 E3 S3 R3 hR3 x3 fr3 st3 => ?_⟩
      obtain ⟨q1, q2⟩ := fr3 tr _ tok.t tok.r g2
      exact k G3 M3 H3 Sg3 wd (st2.E.trans E3) S3 R3 hR3 st3 (tok.up x3 q2) q1
  all_goals
    walk_at "rd"
    refine ⟨ty_lst (S2.m _ _ f2), ?_⟩
    walk_at "rd"
    refine al_lstM S2 (by walk_at "gv") (by simp) (fun l2 M4 H4 e4 S4 f4 n4 _ => ?_)
    obtain ⟨st4, x4⟩ := stp_new (k := .level) st2 n4 e4 f4 ⟨Nat.zero_le _, fun x hx => by cases hx⟩
    have hc2 : la ≠ l2 := fun z => by subst z; rw [n4] at f2; cases f2
    have g4 : M4 la = some (.lst xs) := by rw [e4 _ hc2]; exact f2
    walk_at "rd"
    refine rd_insM S4 g4 (by rw [sizeLine_eq]; omega) d0 (by omega) (fun M6 H6 e6 S6 f6 => ?_)
    exact fin G2 M6 H6 _ (stp_chg st4 (x4 _ _ tok.l (by intro s z; cases z)) e6 f6 (Nat.le_succ _) ⟨by rw [ins_len]; omega, ins_all _ (fun x hx => by obtain ⟨a, h1, h2⟩ := hxe x hx; exact ⟨a, h1, x4 _ _ h2 (by intro s z; cases z)⟩) ⟨l2, rfl, upS_same⟩⟩) S6
def sp_l_told : Sp := fun vs H Q _ => ∃ (G M : Hp) (tr ca la : Addr) (n : Nat) (Sg : Sig) (B wn : Nat) (number : Int) (wd : Str), Hs G M H ∧ Sto n Sg G M B ∧ B ≤ 1000 ∧ vs = [.int (wn : Int), .int number, .ref tr] ∧ M tr = some (.lst [.str wd, .ref ca, .ref la]) ∧ Sg ca = some .cmps ∧ Sg la = some .levels ∧ 1 ≤ wn ∧ wn ≤ 4 ∧
  (∀ x : Paper, x.1 = wd → ¬ Fewest wn number x ∧ ¬ Layers wn number x) ∧ ∀ H', Q (.bl true) H'
theorem ok_l_told (T : Bt mg) (F : Dfn K mg "_law_told" s_l_told) (h_l_frozen : Has P w K mg base 1 "_law_frozen" ["_law_levels"] sp_l_frozen) (h_takes_fewest : Has P w K mg base 5 "takes_fewest" ["wires", "number", "paper"] sp_takes_fewest)
    (h_takes_layers : Has P w K mg base 5 "takes_layers" ["wires", "number", "paper"] sp_takes_layers) : Has P w K mg base 6 "_law_told" ["_law_wires", "_law_number", "_law_tree"] sp_l_told := by
  refine F.ok sc_l_told (fun _ _ _ _ _ _ us hl => match us, hl with | [_, _, _], _ => rfl) (fun vs H Q E h => by obtain ⟨_, _, _, _, _, _, _, _, _, _, _, _, _, _, rfl, _⟩ := h; rfl) (fun f cdv A outer s H vs Q E hr h => ?_)
  obtain ⟨G, M, tr, ca, la, n, Sg, B, wn, number, wd, S, st, hB, rfl, htr, hca, hla, hwn1, hwn, hno, k⟩ := h
  obtain ⟨xs, hxs, hxl, hxe⟩ := st ca _ hca
  have ht0 : atI [V.str wd, V.ref ca, V.ref la] 0 = some (.str wd) := rfl
  have ht1 : atI [V.str wd, V.ref ca, V.ref la] 1 = some (.ref ca) := rfl
  have ht2 : atI [V.str wd, V.ref ca, V.ref la] 2 = some (.ref la) := rfl
  refine ⟨_, (pss_cons (ps_set (i := 3) sc_l_told.nd rfl (Or.inl rfl) (pe_tup (pa_cons (pe_ix (ixL K) (pv 2) pe_int (fun _ _ => rfl)) (pa_cons (pe_callTy (tupO K) (by rfl) T.tuple (by decide +kernel) (pa_cons (pe_ix (ixL K) (pv 2) pe_int (fun _ _ => rfl)) pa_nil)) (pa_cons (pe_fn h_l_frozen hr (pa_cons (pe_ix (ixL K) (pv 2) pe_int (fun _ _ => rfl)) pa_nil)) pa_nil)))))
    (pss_one (ps_ret (pe_and (pe_cmpR is_bl (pe_fn h_takes_fewest hr (pa_cons (pv 0) (pa_cons (pv 1) (pa_cons (pv 3) pa_nil)))) pe_bl (nomark _)) (pe_one (pe_cmpR is_bl (pe_fn h_takes_layers hr (pa_cons (pv 0) (pa_cons (pv 1) (pa_cons (pv 3) pa_nil)))) pe_bl (nomark _))))))), ?_⟩
  walk_at "rd"
  apply rd_tup
  walk_at "rd"
  refine al_tpL S (S.m _ _ hxs) (fun t1 G1 H1 E1 S1 f1 => ?_)
  walk_at "rd"
  refine ⟨G1, M, la, n, Sg, B, S1, rfl, st.up E1 (Nat.le_refl _), hla, hB, fun v G2 H2 ls E2 S2 hls hlv hll => ?_⟩
  walk_at "rd"
  refine ⟨by simp [sizeLine_eq], fun t2 ht2' => ?_⟩
  obtain ⟨G3, E3, S3, f3⟩ := S2.addG (o := .tup [.str wd, .ref t1, v]) ht2'
  obtain ⟨cs, hcs, _⟩ := all2_of (R := rP) (p := fun _ => True) xs fun x hx => by obtain ⟨c, hc⟩ := hxe x hx; exact ⟨c, hc, trivial⟩
  have hcl := hcs.len
  have hp : rPaper (wd, cs, ls) (.ref t2) G3 := ⟨t2, _, _, rfl, f3, ⟨t1, xs, rfl, E3 _ _ (E2 _ _ f1), hcs.up up_P ((E1.trans E2).trans E3)⟩, up_T up_Lv _ _ _ _ E3 hls⟩
  have hpo : PaperOk (wd, cs, ls) := ⟨hlv, by dsimp only; omega, by dsimp only; omega⟩
  obtain ⟨n1, n2⟩ := hno (wd, cs, ls) rfl
  walk_at "rd"
  refine ⟨G3, M, (wn, number, (wd, cs, ls)), S3, ⟨_, _, _, rfl, rfl, rfl, hp, hwn1, hwn, hpo⟩, fun v G4 H4 E4 S4 ⟨b, ev, hb⟩ => ?_⟩
  subst ev
  have hb2 : b = false := by
    cases b with
    | false => rfl
    | true => exact absurd (hb rfl) n1
  subst hb2
  walk_at "rd"
  refine ⟨_, _, rfl, rfl, ?_⟩
  walk_at "rd"
  refine (if_pos (decide_eq_true rfl)).mpr ?_
  walk_at "rd"
  refine ⟨G4, M, (wn, number, (wd, cs, ls)), S4, ⟨_, _, _, rfl, rfl, rfl, up_paper _ _ _ _ E4 hp, hwn1, hwn, hpo⟩, fun v G5 H5 E5 S5 ⟨b, ev, hb⟩ => ?_⟩
  subst ev
  have hb2 : b = false := by
    cases b with
    | false => rfl
    | true => exact absurd (hb rfl) n2
  subst hb2
  walk_at "rd"
  refine ⟨_, _, rfl, rfl, ?_⟩
  have e : decide (false = false) = true := decide_eq_true rfl
  rw [e]
  exact k _
end
end N
/-! LS: the law: an entry, the following states -/
namespace N
open PySem L2
theorem want_cd {x : Wd} (ok : WdOk x) {ss ws : List Row} (hs : ∀ s ∈ ss, CdOk x.rows.length s) (h : WantOk x ss ws) : ∀ w ∈ ws, CdOk x.rows.length w := fun w hw => by
  obtain ⟨s, hs', t, ht, ha⟩ := h.el w hw
  exact asc_ok ha (tabM_ok (ok.sm t ht) (hs s hs')) ok.n16
theorem chosen_cd {x : Wd} (ok : WdOk x) {ws ks : List Row} (hs : ∀ s ∈ ws, CdOk x.rows.length s) (h : ChosenOk x ws ks) : ∀ k ∈ ks, CdOk x.rows.length k := fun k hk => by
  obtain ⟨w, hw, hp | ⟨t, ht, hp⟩⟩ := h.el k hk
  · exact perm_ok hp (hs w hw)
  · exact perm_ok hp (tabM_ok (ok.nm t ht) (hs w hw))
def unsB (x : Wd) (s : Row) : Bool := (sumsM x s).any fun c => decide (1 < (sumsM x s).count c)
theorem unsB_iff (x : Wd) (s : Row) : unsB x s = true ↔ unsM x s := by
  unfold unsB unsM
  rw [List.any_eq_true]
  constructor
  · rintro ⟨c, hc, h⟩
    exact ⟨c, hc, of_decide_eq_true h⟩
  · rintro ⟨c, hc, h⟩
    exact ⟨c, hc, decide_eq_true h⟩
theorem uns_bool {x : Wd} {s : Row} {b : Bool} (h : b = true ↔ unsM x s) : b = unsB x s := by
  have h2 := unsB_iff x s
  cases b <;> cases hb : unsB x s
  · rfl
  · exact absurd (h.mpr (h2.mp hb)) (by decide)
  · have := h2.mpr (h.mp rfl); rw [hb] at this; cases this
  · rfl
section
variable {P : Program} {w : World} {K : PySem.W.Frag} {mg : Str → Option Value} {base : Heap}
def sp_l_entry : Sp := drawSp (fun (x : List Row × List (List Nat) × Row × Wd) R vs G => ∃ v1 v2 v3 v4 v5, vs = [v1, v2, v3, v4, v5] ∧ rL rLI x.1 v1 G ∧ rL rIm x.2.1 v2 G ∧ rLI x.2.2.1 v3 G ∧ rWd x.2.2.2 v4 G ∧ v5 = .ref R ∧ WdOk x.2.2.2 ∧
    x.1 ≠ [] ∧ x.1.length ≤ 70000 ∧ x.2.1.length ≤ 70000 ∧ (∀ im ∈ x.2.1, im.length = x.2.2.2.nm.length) ∧ CdOk x.2.2.2.rows.length x.2.2.1)
  (fun _ v G => ∃ es, rL rEnt es v G ∧ es.length ≤ 1 ∧ ∀ e ∈ es, e.2.length ≤ 8)
theorem ok_l_entry (T : Bt mg) (F : Dfn K mg "_law_entry" s_l_entry) (h_l_hits : Has P w K mg base 2 "_law_hits" ["_law_images_here", "_law_led"] sp_l_hits) (h_l_draw : Has P w K mg base 1 "_law_draw" ["_law_rest", "_law_limit"] sp_l_draw) :
    Has P w K mg base 3 "_law_entry" ["_law_states", "_law_images_here", "_law_led", "_law_world_here", "_law_rest"] sp_l_entry := by
  refine F.ok sc_l_entry (fun _ _ _ _ _ _ us hl => match us, hl with | [_, _, _, _, _], _ => rfl) (fun vs H Q E h => by obtain ⟨_, _, _, _, _, _, ⟨_, _, _, _, _, rfl, _⟩, _⟩ := h; rfl) (fun f cdv A outer s H vs Q E hr h => ?_)
  obtain ⟨G, M, R, ⟨ss, ims, led, x⟩, S, hR, ⟨v1, v2, v3, v4, v5, rfl, ⟨sa, sx, rfl, hsa, sal⟩, him, ⟨lb, rfl, hlb⟩, ⟨wa, w1, w2, w3, w4, rfl, hwa, hw1, ⟨na, nx, rfl, hna, nal⟩, hw3, hw4⟩, rfl, ok, hne, hsl, himl, himz, hcd⟩, k⟩ := h
  dsimp only at sal him hlb hwa nal ok hne hsl himl himz hcd hna
  refine ⟨_, (pss_cons (ps_set (i := 5) sc_l_entry.nd rfl (Or.inl rfl) (pe_fn h_l_hits hr (pa_cons (pv 1) (pa_cons (pv 2) pa_nil))))
    (pss_cons (ps_if (pt_cmpR op_gt (pe_callB (lenS K) (by rfl) T.len PySem.boot_len (pa_cons (pv 5) pa_nil)) pe_int (nomark _))
     (pss_cons (ps_set (i := 6) sc_l_entry.nd rfl (Or.inl rfl) (pe_ix (ixL K) (pv 5) (pe_fn h_l_draw hr (pa_cons (pv 4) (pa_cons (pe_callB (lenS K) (by rfl) T.len PySem.boot_len (pa_cons (pv 5) pa_nil)) pa_nil))) (fun _ _ => rfl)))
     (pss_one (ps_ret (pe_lst (pa_cons (pe_tup (pa_cons (pe_ix (ixT K) (pv 6) pe_int (fun _ _ => rfl)) (pa_cons (pe_ix (ixL K) (pe_ix (ixL K) (pv 3) pe_int (fun _ _ => rfl)) (pe_ix (ixT K) (pv 6) pe_int (fun _ _ => rfl)) (fun _ _ => rfl)) pa_nil))) pa_nil)))))
     pss_nil)
    (pss_cons (ps_set (i := 7) sc_l_entry.nd rfl (Or.inr rfl) (pe_ix (ixL K) (pe_ix (ixL K) (pv 3) pe_int (fun _ _ => rfl)) (pe_fn h_l_draw hr (pa_cons (pv 4) (pa_cons (pe_callB (lenS K) (by rfl) T.len PySem.boot_len (pa_cons (pe_ix (ixL K) (pv 3) pe_int (fun _ _ => rfl)) pa_nil)) pa_nil))) (fun _ _ => rfl)))
    (pss_cons (ps_set (i := 8) sc_l_entry.nd rfl (Or.inl rfl) (pe_fn h_l_draw hr (pa_cons (pv 4) (pa_cons pe_int pa_nil))))
    (pss_cons (ps_if (pt_cmpR op_eq (pv 8) pe_int (nomark _))
     (pss_one (ps_ret (pe_lst (pa_cons (pe_tup (pa_cons (pe_fn h_l_draw hr (pa_cons (pv 4) (pa_cons (pe_callB (lenS K) (by rfl) T.len PySem.boot_len (pa_cons (pv 0) pa_nil)) pa_nil))) (pa_cons (pe_callTy (tupO K) (by rfl) T.tuple (by decide +kernel) (pa_cons (pe_lc (own := [("_law_wire", 9)]) rfl sc_l_entry.nd (piT K (pv 7)) (blkOk_by (N := ["_law_states", "_law_images_here", "_law_led", "_law_world_here", "_law_rest", "_law_hits_here", "_law_hit", "_law_names", "_law_choice", "_law_wire"]) (sc := defScope s_l_entry) (by decide +kernel)) (fun _ _ _ _ _ => (pg_name (i := 9) sc_l_entry.nd rfl (Or.inl rfl))) (fun _ _ _ _ _ => pts_nil) (fun _ _ _ _ _ => (pe_ix (ixT K) (pv 7) pe_int (fun _ _ => rfl)))) pa_nil)) pa_nil))) pa_nil))))
     pss_nil)
    (pss_cons (ps_if (pt_cmpR op_eq (pv 8) pe_int (nomark _))
     (pss_one (ps_ret (pe_lst (pa_cons (pe_tup (pa_cons (pe_ix (ixL K) (pe_lst (pa_cons (pe_un un_neg pe_int) (pa_cons (pe_callB (lenS K) (by rfl) T.len PySem.boot_len (pa_cons (pv 0) pa_nil)) pa_nil))) (pe_fn h_l_draw hr (pa_cons (pv 4) (pa_cons pe_int pa_nil))) (fun _ _ => rfl)) (pa_cons (pv 7) pa_nil))) pa_nil))))
     pss_nil)
    (pss_cons (ps_if (pt_cmpR op_eq (pv 8) pe_int (nomark _))
     (pss_one (ps_ret (pe_lst pa_nil)))
     pss_nil)
    (pss_cons (ps_if (pt_cmpR op_eq (pv 8) pe_int (nomark _))
     (pss_one (ps_ret (pe_lst (pa_cons (pe_tup (pa_cons (pe_fn h_l_draw hr (pa_cons (pv 4) (pa_cons (pe_callB (lenS K) (by rfl) T.len PySem.boot_len (pa_cons (pv 0) pa_nil)) pa_nil))) (pa_cons (pe_op (catA K) (pv 7) (pv 7)) pa_nil))) pa_nil))))
     pss_nil)
    (pss_one (ps_ret (pe_lst (pa_cons (pe_tup (pa_cons (pe_fn h_l_draw hr (pa_cons (pv 4) (pa_cons (pe_callB (lenS K) (by rfl) T.len PySem.boot_len (pa_cons (pv 0) pa_nil)) pa_nil))) (pa_cons (pv 7) pa_nil))) pa_nil)))))))))))), ?_⟩
  have hat1 : atI [w1, V.ref na, w3, w4] 1 = some (.ref na) := rfl
  have hs0 : 0 < ss.length := List.length_pos_iff.mpr hne
  have hsxl := sal.len
  have hnxl := nal.len
  have hn0 : 0 < x.nm.length := List.length_pos_iff.mpr ok.n0
  have hnl := ok.nl
  have n16 := ok.n16
  have one : ∀ (G' M' H' : Hp) (l t : Addr) (i : Int) (nb : Addr) (ns : Row), Same G G' → Off (· = R) M M' → Rest M' R → Hs G' M' H' → G' l = some (.lst [.ref t]) → G' t = some (.tup [.int i, .ref nb]) → G' nb = some (.tup (ns.map V.int)) → ns.length ≤ 8 → Q (.ref l) H' :=
    fun G' M' H' l t i nb ns E O R' S' f1 f2 f3 hz => k _ G' M' H' E O R' S' ⟨[(i, ns)], ⟨l, _, rfl, f1, All2.nil.cons ⟨t, _, _, rfl, f2, rfl, nb, rfl, f3⟩⟩, Nat.le_refl _, fun e he => by
      have := List.mem_singleton.mp he
      subst this
      exact hz⟩
  walk_at "rd"
  refine ⟨G, M, (ims, led), S, ⟨_, _, rfl, him, ⟨lb, rfl, hlb⟩, himl, fun im h => by have := himz im h; have := ok.nz; omega, fun c hc => by have := hcd.2.2 c hc; omega⟩, fun v G1 H1 E1 S1 ⟨hs, ⟨hb, ys, ev, hhb, hal⟩, hits⟩ => ?_⟩
  subst ev
  have hyl := hal.len
  have hwa1 := E1 _ _ hwa
  have hna1 := E1 _ _ hna
  have hsa1 := E1 _ _ hsa
  walk_at "rd"
  refine rd_ite (fun h0 => ?_) (fun h0 => ?_)
  · walk_at "rd"
    refine ⟨G1, M, R, ys.length, S1, hR, ⟨_, _, rfl, rfl, rfl, by omega⟩, fun v G2 M2 H2 E2 O2 R2 S2 ⟨d, ed, d0, d1⟩ => ?_⟩
    subst ed
    obtain ⟨p, pv, ep, eat, hp⟩ := at_rel hal d0 d1
    obtain ⟨t, rfl, ht⟩ := rP_ti hp
    obtain ⟨i, kk, rfl, im, y, q1, q2, _⟩ := hits.el p (List.mem_of_getElem? ep)
    have hkl : kk < x.nm.length := by
      rw [← himz im (List.mem_of_getElem? q1)]
      exact (List.getElem?_eq_some_iff.mp q2).1
    obtain ⟨ns, nv, en, enat, hnr⟩ := at_rel nal (i := (kk : Int)) (by omega) (by omega)
    obtain ⟨nb, rfl, hnb⟩ := hnr
    have hnsz := (ok.names ns (List.mem_of_getElem? en)).2
    have ht2 := E2 _ _ ht
    have hhb2 := E2 _ _ hhb
    have hp0 : atI ([(i : Int), (kk : Int)].map V.int) 0 = some (.int (i : Int)) := rfl
    have hp1 : atI ([(i : Int), (kk : Int)].map V.int) 1 = some (.int (kk : Int)) := rfl
    have hna2 := E2 _ _ hna1
    have hwa2 := E2 _ _ hwa1
    walk_at "rd"
    apply rd_lst
    walk_at "rd"
    refine al_tup S2 (by walk_at "gv") (by simp [sizeLine_eq]) (fun t1 G3 H3 E3 S3 f3 => ?_)
    walk_at "rd"
    refine ⟨by simp [sizeLine_eq], fun l hl => ?_⟩
    obtain ⟨G4, E4, S4, f4⟩ := S3.addG (o := .lst [.ref t1]) hl
    exact one G4 M2 _ l t1 _ nb ns ((E1.trans E2).trans (E3.trans E4)) O2 R2 S4 f4 (E4 _ _ f3) ((((E1.trans E2).trans (E3.trans E4))) _ _ hnb) (by omega)
  walk_at "rd"
  refine ⟨G1, M, R, nx.length, S1, hR, ⟨_, _, rfl, rfl, rfl, by omega⟩, fun v G2 M2 H2 E2 O2 R2 S2 ⟨d, ed, d0, d1⟩ => ?_⟩
  subst ed
  obtain ⟨ns, nv, en, enat, nb, rfl, hnb⟩ := at_rel nal d0 d1
  obtain ⟨hns0, hnsz⟩ := ok.names ns (List.mem_of_getElem? en)
  have hna2 := E2 _ _ hna1
  have hsa2 := E2 _ _ hsa1
  have E12 := E1.trans E2
  have hnb2 := E12 _ _ hnb
  walk_at "rd"
  refine ⟨G2, M2, R, 5, S2, R2, ⟨_, _, rfl, rfl, rfl, by decide⟩, fun v G3 M3 H3 E3 O3 R3 S3 ⟨c, ec, c0, c5⟩ => ?_⟩
  subst ec
  have hsa3 := E3 _ _ hsa2
  have hnb3 := E3 _ _ hnb2
  have O13 := off_trans O2 O3
  have E13 := E12.trans E3
  walk_at "rd"
  refine rd_ite (fun h1 => ?_) (fun h1 => ?_)
  · walk_at "rd"
    apply rd_lst
    walk_at "rd"
    apply rd_tup
    walk_at "rd"
    refine ⟨G3, M3, R, sx.length, S3, R3, ⟨_, _, rfl, rfl, rfl, by omega⟩, fun v G4 M4 H4 E4 O4 R4 S4 ⟨i, ei, _, _⟩ => ?_⟩
    subst ei
    have hnb4 := E4 _ _ hnb3
    have hl0 : 0 < ns.length := List.length_pos_iff.mpr hns0
    have hat0 : atI (ns.map V.int) 0 = some (.int ns[0]) := at_of (j := 0) rfl (by rw [List.getElem?_map, List.getElem?_eq_getElem hl0]; rfl)
    walk_at "rd"
    refine compT up_Z ((List.replicate ns.length ns[0]).map some) S4 (by walk_at "gv") hnb4 (by simp) (by simp [sizeLine_eq]; omega) (by intro _; rfl) yes_all (fun i1 x1 y1 G5 M5 H5 hx1 ho E5 S5 Q' kk => ?_) (fun p acc3 G5 H5 E5 S5 e al2 => ?_)
    · have ey := some_at ho
      have hi1 : i1 < ns.length := by
        have := (List.getElem?_eq_some_iff.mp hx1).1
        rw [List.length_map] at this
        exact this
      rw [List.getElem?_replicate, if_pos hi1] at ey
      cases ey
      have hnb5 := E5 _ _ hnb4
      walk_at "rd"
      exact kk _ G5 H5 (Same.refl _) S5 rfl
    · rw [filt_some] at al2
      have ea := al2.ints
      subst ea
      walk_at "rd"
      refine al_tpL S5 (S5.g _ _ e) (fun t G6 H6 E6 S6 f6 => ?_)
      walk_at "rd"
      refine ⟨by simp [sizeLine_eq], fun u hu => ?_⟩
      obtain ⟨G7, E7, S7, f7⟩ := S6.addG (o := .tup [.int i, .ref t]) hu
      walk_at "rd"
      refine ⟨by simp [sizeLine_eq], fun l hl => ?_⟩
      obtain ⟨G8, E8, S8, f8⟩ := S7.addG (o := .lst [.ref u]) hl
      exact one G8 M4 _ l u i t _ ((E13.trans (E4.trans E5)).trans ((E6.trans E7).trans E8)) (off_trans O13 O4) R4 S8 f8 (E8 _ _ f7) (E8 _ _ (E7 _ _ f6)) (by rw [List.length_replicate]; omega)
  walk_at "rd"
  refine rd_ite (fun h2 => ?_) (fun h2 => ?_)
  · walk_at "rd"
    apply rd_lst
    walk_at "rd"
    apply rd_tup
    walk_at "rd"
    refine al_lst S3 (by intro R_ q_; walk_at "rd"; refine ⟨1, rfl, ?_⟩; walk_at "rd"; exact q_) (by simp [sizeLine_eq]) (fun q1 G4 H4 E4 S4 f4 => ?_)
    walk_at "rd"
    refine ⟨G4, M3, R, 2, S4, R3, ⟨_, _, rfl, rfl, rfl, by decide⟩, fun v G5 M5 H5 E5 O5 R5 S5 ⟨i1, ei1, i0, i2⟩ => ?_⟩
    subst ei1
    have hz : ∃ z : Int, atI [V.int (-1), V.int (sx.length : Int)] i1 = some (.int z) := by
      have hc : i1 = 0 ∨ i1 = 1 := by omega
      rcases hc with rfl | rfl
      · exact ⟨_, rfl⟩
      · exact ⟨_, rfl⟩
    obtain ⟨z, hz⟩ := hz
    have f5 := E5 _ _ f4
    walk_at "rd"
    refine ⟨by simp [sizeLine_eq], fun u hu => ?_⟩
    obtain ⟨G7, E7, S7, f7⟩ := S5.addG (o := .tup [.int z, .ref nb]) hu
    walk_at "rd"
    refine ⟨by simp [sizeLine_eq], fun l hl => ?_⟩
    obtain ⟨G8, E8, S8, f8⟩ := S7.addG (o := .lst [.ref u]) hl
    have E38 := (E4.trans E5).trans (E7.trans E8)
    exact one G8 M5 _ l u z nb ns (E13.trans E38) (off_trans O13 O5) R5 S8 f8 (E8 _ _ f7) (E38 _ _ hnb3) (by omega)
  walk_at "rd"
  refine rd_ite (fun h3 => ?_) (fun h3 => ?_)
  · walk_at "rd"
    refine al_lst S3 (by walk_at "gv") (by simp) (fun q1 G4 H4 E4 S4 f4 => ?_)
    exact k _ G4 M3 H4 (E13.trans E4) O13 R3 S4 ⟨[], ⟨q1, _, rfl, f4, All2.nil⟩, Nat.zero_le _, fun e he => by cases he⟩
  walk_at "rd"
  refine rd_ite (fun h4 => ?_) (fun h4 => ?_)
  · walk_at "rd"
    apply rd_lst
    walk_at "rd"
    apply rd_tup
    walk_at "rd"
    refine ⟨G3, M3, R, sx.length, S3, R3, ⟨_, _, rfl, rfl, rfl, by omega⟩, fun v G4 M4 H4 E4 O4 R4 S4 ⟨i, ei, _, _⟩ => ?_⟩
    subst ei
    have hnb4 := E4 _ _ hnb3
    walk_at "rd"
    refine al_catT S4 hnb4 hnb4 (by rw [List.length_map, sizeLine_eq]; omega) (fun t G6 H6 E6 S6 f6 => ?_)
    walk_at "rd"
    refine ⟨by simp [sizeLine_eq], fun u hu => ?_⟩
    obtain ⟨G7, E7, S7, f7⟩ := S6.addG (o := .tup [.int i, .ref t]) hu
    walk_at "rd"
    refine ⟨by simp [sizeLine_eq], fun l hl => ?_⟩
    obtain ⟨G8, E8, S8, f8⟩ := S7.addG (o := .lst [.ref u]) hl
    exact one G8 M4 _ l u i t (ns ++ ns) ((E13.trans E4).trans ((E6.trans E7).trans E8)) (off_trans O13 O4) R4 S8 f8 (E8 _ _ f7) (by rw [List.map_append]; exact E8 _ _ (E7 _ _ f6)) (by rw [List.length_append]; omega)
  · walk_at "rd"
    apply rd_lst
    walk_at "rd"
    apply rd_tup
    walk_at "rd"
    refine ⟨G3, M3, R, sx.length, S3, R3, ⟨_, _, rfl, rfl, rfl, by omega⟩, fun v G4 M4 H4 E4 O4 R4 S4 ⟨i, ei, _, _⟩ => ?_⟩
    subst ei
    have hnb4 := E4 _ _ hnb3
    walk_at "rd"
    refine ⟨by simp [sizeLine_eq], fun u hu => ?_⟩
    obtain ⟨G7, E7, S7, f7⟩ := S4.addG (o := .tup [.int i, .ref nb]) hu
    walk_at "rd"
    refine ⟨by simp [sizeLine_eq], fun l hl => ?_⟩
    obtain ⟨G8, E8, S8, f8⟩ := S7.addG (o := .lst [.ref u]) hl
    exact one G8 M4 _ l u i nb ns ((E13.trans E4).trans (E7.trans E8)) (off_trans O13 O4) R4 S8 f8 (E8 _ _ f7) (E8 _ _ (E7 _ _ hnb4)) (by omega)
def StsOk (x : Wd) (ss : List Row) : Prop := ss ≠ [] ∧ ss.length ≤ 70000 ∧ ∀ s ∈ ss, CdOk x.rows.length s
def sp_l_following : Sp := drawSp (fun (x : List Row × Wd) R vs G => ∃ v1 v2 v3, vs = [v1, v2, v3] ∧ rL rLI x.1 v1 G ∧ rWd x.2 v2 G ∧ v3 = .ref R ∧ WdOk x.2 ∧ StsOk x.2 x.1 ∧ x.2.sm ≠ [] ∧ 3 ≤ x.2.rows.length) (fun x v G => ∃ ss, rL rLI ss v G ∧ StsOk x.2 ss)
theorem ok_l_following (T : Bt mg) (F : Dfn K mg "_law_following" s_l_following) (h_l_chosen : Has P w K mg base 3 "_law_chosen" ["_law_wanted_here", "_law_world_here", "_law_rest"] sp_l_chosen) (h_l_draw : Has P w K mg base 1 "_law_draw" ["_law_rest", "_law_limit"] sp_l_draw)
    (h_l_wanted : Has P w K mg base 1 "_law_wanted" ["_law_states", "_law_world_here"] sp_l_wanted) (h_l_unsettled : Has P w K mg base 1 "_law_unsettled" ["_law_state", "_law_rows_here"] sp_l_unsettled) : Has P w K mg base 4 "_law_following" ["_law_states", "_law_world_here", "_law_rest"] sp_l_following := by
  refine F.ok sc_l_following (fun _ _ _ _ _ _ us hl => match us, hl with | [_, _, _], _ => rfl) (fun vs H Q E h => by obtain ⟨_, _, _, _, _, _, ⟨_, _, _, rfl, _⟩, _⟩ := h; rfl) (fun f cdv A outer s H vs Q E hr h => ?_)
  obtain ⟨G, M, R, ⟨ss, x⟩, S, hR, ⟨v1, v2, v3, rfl, hss, hw, rfl, ok, ⟨hne, hsl, hcd⟩, hsm, hr3⟩, k⟩ := h
  dsimp only at hss hw ok hne hsl hcd hsm hr3
  obtain ⟨wa, w1, w2, w3, w4, rfl, hwa, hw1, hw2, hw3, hw4⟩ := id hw
  have hat0 : atI [w1, w2, w3, w4] 0 = some w1 := rfl
  refine ⟨_, (pss_cons (ps_set (i := 3) sc_l_following.nd rfl (Or.inl rfl) (pe_fn h_l_chosen hr (pa_cons (pe_fn h_l_wanted hr (pa_cons (pv 0) (pa_cons (pv 1) pa_nil))) (pa_cons (pv 1) (pa_cons (pv 2) pa_nil)))))
    (pss_cons (ps_setLc (i := 4) (own := [("_law_state", 5)]) rfl sc_l_following.nd rfl rfl (sw_true rfl rfl rfl (by decide +kernel)) (piL K (pv 3)) (blkOk_by (N := ["_law_states", "_law_world_here", "_law_rest", "_law_found", "_law_unsettled_here", "_law_state", "_law_choice"]) (sc := defScope s_l_following) (by decide +kernel)) (fun _ _ _ _ _ => (pg_name (i := 5) sc_l_following.nd rfl (Or.inl rfl))) (fun _ _ _ _ _ => (pts_one (pt_val (pe_fn h_l_unsettled hr (pa_cons (pv 5) (pa_cons (pe_ix (ixL K) (pv 1) pe_int (fun _ _ => rfl)) pa_nil)))))) (fun _ _ _ _ _ => (pv 5)))
    (pss_cons (ps_set (i := 6) sc_l_following.nd rfl (Or.inl rfl) (pe_fn h_l_draw hr (pa_cons (pv 2) (pa_cons pe_int pa_nil))))
    (pss_cons (ps_if (PW.pt (pw_and (pt_cmpR op_gt (pe_callB (lenS K) (by rfl) T.len PySem.boot_len (pa_cons (pv 4) pa_nil)) pe_int (nomark _)) (pw_and1 (pt_cmpR op_gt (pv 6) pe_int (nomark _)))))
     (pss_one (ps_ret (pv 4)))
     pss_nil)
    (pss_cons (ps_if (pt_cmpR op_eq (pv 6) pe_int (nomark _))
     (pss_one (ps_ret (pv 0)))
     pss_nil)
    (pss_cons (ps_if (pt_cmpR op_eq (pv 6) pe_int (nomark _))
     (pss_one (ps_ret (pe_lst (pa_cons (pe_lst (pa_cons pe_int pa_nil)) (pa_cons (pe_lst (pa_cons pe_int (pa_cons pe_int pa_nil))) pa_nil)))))
     pss_nil)
    (pss_one (ps_ret (pv 3))))))))), ?_⟩
  walk_at "rd"
  refine ⟨G, M, (ss, x), S, ⟨_, _, rfl, hss, hw, ok, hcd, hsl⟩, fun v G1 H1 E1 S1 ⟨ws, hws, wk⟩ => ?_⟩
  have hwcd := want_cd ok hcd wk
  have hwn : ws ≠ [] := by
    obtain ⟨s0, hs0⟩ := List.exists_mem_of_ne_nil _ hne
    obtain ⟨t0, ht0⟩ := List.exists_mem_of_ne_nil _ hsm
    obtain ⟨w0, hw0, _⟩ := wk.al s0 hs0 t0 ht0
    exact fun z => by rw [z] at hw0; cases hw0
  have hwz : ws.length ≤ 700000 := by
    have h1 := wk.sz
    have h2 := ok.sz
    have h3 : x.sm.length * ss.length ≤ 9 * 70000 := Nat.mul_le_mul h2 hsl
    dsimp only at h1
    omega
  walk_at "rd"
  refine ⟨G1, M, R, (ws, x), S1, hR, ⟨_, _, _, rfl, hws, up_Wd _ _ _ _ E1 hw, rfl, ok, hwn, hwcd, hwz⟩, fun v G2 M2 H2 E2 O2 R2 S2 ⟨ks, hks, ck⟩ => ?_⟩
  have hkcd := chosen_cd ok hwcd ck
  obtain ⟨kb, kx, rfl, hkb, kal⟩ := id hks
  have hksz := ck.sz
  have E12 := E1.trans E2
  have hwa2 := E12 _ _ hwa
  walk_at "rd"
  refine compL up_LI (ks.map fun k => if unsB x k = true then some k else none) S2 (by walk_at "gv") hkb (by simp [kal.len]) (by simp [sizeLine_eq]; omega) (by intro _; rfl) (fun i1 x2 o G4 M4 H4 hx2 ho E4 S4 Q' kk => ?_) (fun i1 x2 y2 G4 M4 H4 hx2 ho E4 S4 Q' kk => ?_) (fun p acc G4 H4 E4 S4 f4 al4 => ?_)
  · obtain ⟨l, el, hl⟩ := kal.at hx2
    rw [List.getElem?_map, el] at ho
    have eo : (if unsB x l = true then some l else none) = o := by simpa using ho
    subst eo
    have hwa4 := E4 _ _ hwa2
    walk_at "rd"
    refine ⟨G4, M4, (l, x), S4, ⟨_, _, rfl, up_LI _ _ _ _ E4 hl, up_L up_TI _ _ _ _ (E12.trans E4) hw1, hkcd l (List.mem_of_getElem? el)⟩, fun v G5 H5 E5 S5 ⟨b, ev, hb⟩ => ?_⟩
    subst ev
    have hb2 := uns_bool hb
    dsimp only at hb2
    subst hb2
    walk_at "rd"
    have := kk G5 H5 E5 S5
    cases h : unsB x l <;> simpa [h] using this
  · obtain ⟨l, el, hl⟩ := kal.at hx2
    rw [List.getElem?_map, el] at ho
    have eo : (if unsB x l = true then some l else none) = some y2 := by simpa using ho
    by_cases h : unsB x l = true
    · rw [if_pos h] at eo
      cases eo
      walk_at "rd"
      exact kk _ G4 H4 (Same.refl _) S4 (up_LI _ _ _ _ E4 hl)
    · rw [if_neg h] at eo
      cases eo
  · generalize hul : (ks.map fun k => if unsB x k = true then some k else none).filterMap id = us at al4
    have hus : ∀ u ∈ us, u ∈ ks := fun u hu => by
      rw [← hul, List.mem_filterMap] at hu
      obtain ⟨o, ho, e⟩ := hu
      obtain ⟨k', hk', rfl⟩ := List.mem_map.mp ho
      by_cases h : unsB x k' = true
      · rw [if_pos h] at e
        cases e
        exact hk'
      · rw [if_neg h] at e
        cases e
    have husl : us.length ≤ 70000 := by
      have := List.length_filterMap_le id (ks.map fun k => if unsB x k = true then some k else none)
      rw [hul, List.length_map] at this
      omega
    have hul4 := al4.len
    walk_at "rd"
    refine ⟨G4, M2, R, 4, S4, R2, ⟨_, _, rfl, rfl, rfl, by decide⟩, fun v G5 M5 H5 E5 O5 R5 S5 ⟨c, ec, c0, c4⟩ => ?_⟩
    subst ec
    have O25 := off_trans O2 O5
    have E25 := (E12.trans E4).trans E5
    have f5 := E5 _ _ f4
    walk_at "rd"
    have ret3 : Q (.ref kb) H5 := k _ G5 M5 H5 E25 O25 R5 S5 ⟨ks, up_L up_LI _ _ _ _ (E4.trans E5) hks, ck.ne, by omega, hkcd⟩
    refine rd_ite (fun h0 => ?ca) (fun h0 => ?cb)
    case' ca =>
      walk_at "rd"
      refine rd_ite (fun h1 => ?cc) (fun h1 => ?cd)
    case cc =>
      walk_at "rd"
      exact k _ G5 M5 H5 E25 O25 R5 S5 ⟨us, ⟨p, acc, rfl, f5, al4.up up_LI E5⟩, fun z => by rw [z] at hul4; simp at hul4; rw [hul4] at h0; simp at h0, husl, fun u hu => hkcd u (hus u hu)⟩
    case' cb =>
      refine iteF ?_
    all_goals
      walk_at "rd"
      refine rd_ite (fun h2 => ?_) (fun h2 => ?_)
      · walk_at "rd"
        exact k _ G5 M5 H5 E25 O25 R5 S5 ⟨ss, up_L up_LI _ _ _ _ E25 hss, hne, hsl, hcd⟩
      walk_at "rd"
      refine rd_ite (fun h3 => ?_) (fun h3 => ?_)
      · walk_at "rd"
        apply rd_lst
        walk_at "rd"
        refine al_lst S5 (by walk_at "gv") (by simp [sizeLine_eq]) (fun q1 G6 H6 E6 S6 f6 => ?_)
        walk_at "rd"
        refine al_lst S6 (by walk_at "gv") (by simp [sizeLine_eq]) (fun q2 G7 H7 E7 S7 f7 => ?_)
        walk_at "rd"
        refine ⟨by simp [sizeLine_eq], fun q3 hq3 => ?_⟩
        obtain ⟨G8, E8, S8, f8⟩ := S7.addG (o := .lst [.ref q1, .ref q2]) hq3
        refine k _ G8 M5 _ (E25.trans ((E6.trans E7).trans E8)) O25 R5 S8 ⟨[[0], [1, 2]], ⟨q3, _, rfl, f8, All2.cons ⟨q1, rfl, E8 _ _ (E7 _ _ f6)⟩ (All2.cons ⟨q2, rfl, E8 _ _ f7⟩ All2.nil)⟩, by simp, by simp, fun s hs => ?_⟩
        simp at hs
        rcases hs with rfl | rfl
        · exact ⟨by simp, by simp, fun c hc => by
            rw [List.mem_singleton.mp hc]
            exact ⟨by decide, by dsimp only; omega⟩⟩
        · exact ⟨by simp, by simp, fun c hc => by
            rcases List.mem_cons.mp hc with rfl | hc
            · exact ⟨by decide, by dsimp only; omega⟩
            · rw [List.mem_singleton.mp hc]
              exact ⟨by decide, by dsimp only; omega⟩⟩
      · walk_at "rd"
        exact ret3
end
end N
/-! LT: levels that are built -/
namespace N
open PySem L2
abbrev Lvl := Addr × List (Addr × Row)
def refs (ps : List (Addr × Row)) : List V := ps.map fun p => .ref p.1
def pairsOf (LL : List Lvl) : List (Addr × Row) := LL.flatMap (·.2)
structure Cst (n : Nat) (R : Addr) (M0 : Hp) (Sg : Sig) (G M : Hp) (B : Nat) (la : Addr) (LL : List Lvl) (op : List (Addr × Row)) : Prop where
  st : Sto n Sg G M B
  re : Rest M R
  hR : Sg R = none
  ml : M la = some (.lst (LL.map fun l => .ref l.1))
  nl : Sg la = none
  lR : la ≠ R
  mL : ∀ l ∈ LL, M l.1 = some (.lst (refs l.2)) ∧ Sg l.1 = none ∧ l.1 ≠ R ∧ l.1 ≠ la ∧ M0 l.1 = none
  fl : M0 la = none
  fr : ∀ b o, b ≠ R → M0 b = some o → M b = some o ∧ Sg b = none
  pk : ∀ p ∈ pairsOf LL ++ op, Sg p.1 = some (.cpair p.2)
  nd : ((pairsOf LL ++ op).map (·.1)).Nodup
section
variable {n B : Nat} {R la p : Addr} {M0 : Hp} {Sg : Sig} {G G' M M' : Hp} {LL : List Lvl} {op : List (Addr × Row)} {k : Kd} {xs : List V}
theorem cst_draw (h : Cst n R M0 Sg G M B la LL op) (E : Same G G') (O : Off (· = R) M M') (re : Rest M' R) : Cst n R M0 Sg G' M' B la LL op :=
  ⟨(h.st.rest O h.hR).up E (Nat.le_refl _), re, h.hR, by rw [O la h.lR]; exact h.ml, h.nl, h.lR, fun l hl => let ⟨a, b, c, d⟩ := h.mL l hl; ⟨by rw [O _ c]; exact a, b, c, d⟩, h.fl, fun b o h1 h2 => ⟨by rw [O b h1]; exact (h.fr b o h1 h2).1, (h.fr b o h1 h2).2⟩, h.pk, h.nd⟩
theorem cst_same (h : Cst n R M0 Sg G M B la LL op) (E : Same G G') : Cst n R M0 Sg G' M B la LL op := cst_draw h E off_refl h.re
theorem cst_ne {o : HO} (hn : M p = none) {b : Addr} (hb : M b = some o) : b ≠ p := fun z => by subst z; rw [hn] at hb; cases hb
theorem cst_new (h : Cst n R M0 Sg G M B la LL op) (hn : M p = none) (e : ∀ b, b ≠ p → M' b = M b) (f : M' p = some (.lst xs)) (ok : okL n Sg G B k xs) : Cst n R M0 (upS Sg p k) G M' B la LL op ∧ Ext Sg (upS Sg p k) := by
  have hno := h.st.no hn
  have hx : Ext Sg (upS Sg p k) := ext_new (.inl hno)
  obtain ⟨ns, hns⟩ := h.re
  have hpR := cst_ne hn hns
  have hpl := cst_ne hn h.ml
  refine ⟨⟨h.st.set (Nat.le_refl _) e f hx (okL_up hx (Same.refl _) (Nat.le_refl _) ok), ⟨ns, by rw [e _ hpR]; exact hns⟩, by rw [upS_ne hpR]; exact h.hR, by rw [e _ hpl]; exact h.ml, by rw [upS_ne hpl]; exact h.nl, h.lR, fun l hl => ?_, h.fl, fun b o h1 h2 => ?_, fun q hq => ?_, h.nd⟩, hx⟩
  · obtain ⟨a, b, c, d⟩ := h.mL l hl
    have hq := cst_ne hn a
    exact ⟨by rw [e _ hq]; exact a, by rw [upS_ne hq]; exact b, c, d⟩
  · obtain ⟨a, b'⟩ := h.fr b o h1 h2
    have hq := cst_ne hn a
    exact ⟨by rw [e _ hq]; exact a, by rw [upS_ne hq]; exact b'⟩
  · have h1 := h.pk q hq
    have hne : q.1 ≠ p := fun z => by rw [z, hno] at h1; cases h1
    rw [upS_ne hne]
    exact h1
theorem cst_pair {s : Row} (h : Cst n R M0 Sg G M B la LL op) (hn : M p = none) (e : ∀ b, b ≠ p → M' b = M b) (f : M' p = some (.lst xs)) (ok : okL n Sg G B (.cpair s) xs) : Cst n R M0 (upS Sg p (.cpair s)) G M' B la LL (op ++ [(p, s)]) := by
  have hno := h.st.no hn
  obtain ⟨h2, _⟩ := cst_new h hn e f ok
  refine ⟨h2.st, h2.re, h2.hR, h2.ml, h2.nl, h2.lR, h2.mL, h2.fl, h2.fr, fun q hq => ?_, ?_⟩
  · rw [← List.append_assoc] at hq
    rcases List.mem_append.mp hq with hq | hq
    · exact h2.pk q hq
    · rw [List.mem_singleton.mp hq]
      exact upS_same
  · rw [← List.append_assoc, List.map_append]
    refine List.nodup_append.mpr ⟨h.nd, by simp, fun a ha b hb => ?_⟩
    have := List.mem_singleton.mp hb
    subst this
    intro z
    subst z
    obtain ⟨q, hq, e1⟩ := List.mem_map.mp ha
    have h1 := h.pk q hq
    rw [e1] at h1
    rw [hno] at h1
    cases h1
theorem cst_chg (h : Cst n R M0 Sg G M B la LL op) (hk : Sg p = some k) (e : ∀ b, b ≠ p → M' b = M b) (f : M' p = some (.lst xs)) (ok : okL n Sg G B k xs) : Cst n R M0 Sg G M' B la LL op := by
  have hR : R ≠ p := fun z => by have := h.hR; rw [z, hk] at this; cases this
  have hl : la ≠ p := fun z => by have := h.nl; rw [z, hk] at this; cases this
  obtain ⟨ns, hns⟩ := h.re
  refine ⟨h.st.chg (Nat.le_refl _) e f hk ok, ⟨ns, by rw [e _ hR]; exact hns⟩, h.hR, by rw [e _ hl]; exact h.ml, h.nl, h.lR, fun l hl' => ?_, h.fl, fun b o h1 h2 => ?_, h.pk, h.nd⟩
  · obtain ⟨a, b, c, d⟩ := h.mL l hl'
    have hq : l.1 ≠ p := fun z => by rw [z, hk] at b; cases b
    exact ⟨by rw [e _ hq]; exact a, b, c, d⟩
  · obtain ⟨a, b'⟩ := h.fr b o h1 h2
    have hq : b ≠ p := fun z => by rw [z, hk] at b'; cases b'
    exact ⟨by rw [e _ hq]; exact a, b'⟩
/-- the open pairs become a level -/
theorem cst_close {D : Addr} {M1 : Hp} (h : Cst n R M0 Sg G (del M D) B la LL op) (hD : M D = some (.lst (refs op))) (e : ∀ b, b ≠ la → M1 b = M b) (f : M1 la = some (.lst ((LL.map fun l => .ref l.1) ++ [.ref D]))) : Cst n R M0 Sg G M1 B la (LL ++ [(D, op)]) [] := by
  have hd : ∀ {b : Addr} {o : HO}, del M D b = some o → b ≠ D := fun hb z => by subst z; rw [del_same] at hb; cases hb
  have hm : ∀ {b : Addr} {o : HO}, b ≠ la → del M D b = some o → M1 b = some o := fun h1 hb => by
    have h2 := hd hb
    rw [e _ h1]
    rw [del_ne h2] at hb
    exact hb
  have hDl : D ≠ la := (hd h.ml).symm
  obtain ⟨ns, hns⟩ := h.re
  have hSD : Sg D = none := h.st.no del_same
  have hpo : ∀ q, q ∈ pairsOf (LL ++ [(D, op)]) ++ [] ↔ q ∈ pairsOf LL ++ op := fun q => by simp [pairsOf]
  refine ⟨fun a kd hk => ?_, ⟨ns, hm (Ne.symm h.lR) hns⟩, h.hR, by rw [f, List.map_append]; rfl, h.nl, h.lR, fun l hl => ?_, h.fl, fun b o h1 h2 => ?_, fun q hq => h.pk q ((hpo q).mp hq), ?_⟩
  · obtain ⟨ys, h1, h2⟩ := h.st a kd hk
    exact ⟨ys, hm (fun z => by have := h.nl; rw [← z, hk] at this; cases this) h1, h2⟩
  · rcases List.mem_append.mp hl with hl | hl
    · obtain ⟨a, b, c, d, g⟩ := h.mL l hl
      exact ⟨hm d a, b, c, d, g⟩
    · rw [List.mem_singleton.mp hl]
      refine ⟨by rw [e _ hDl]; exact hD, hSD, Ne.symm (hd hns), hDl, ?_⟩
      exact none_of fun u hu => by
        by_cases hz : D = R
        · exact hd hns hz.symm
        · have := (h.fr D u hz hu).1
          rw [del_same] at this
          cases this
  · obtain ⟨a, b'⟩ := h.fr b o h1 h2
    exact ⟨hm (fun z => by have := h.fl; rw [← z, h2] at this; cases this) a, b'⟩
  · have e1 : pairsOf (LL ++ [(D, op)]) ++ [] = pairsOf LL ++ op := by simp [pairsOf]
    rw [e1]
    exact h.nd
end
/-- a pair without covers -/
def Emp (Sg : Sig) (M : Hp) (p : Addr) : Prop := ∃ x b, M p = some (.lst [x, .ref b]) ∧ M b = some (.lst []) ∧ Sg b = some .covs
theorem emp_draw {Sg : Sig} {M M' : Hp} {p R : Addr} (h : Emp Sg M p) (O : Off (· = R) M M') (hp : p ≠ R) (hR : Sg R = none) : Emp Sg M' p := by
  obtain ⟨x, b, h1, h2, h3⟩ := h
  have hb : b ≠ R := fun z => by rw [z, hR] at h3; cases h3
  exact ⟨x, b, by rw [O _ hp]; exact h1, by rw [O _ hb]; exact h2, h3⟩
theorem emp_new {Sg Sg' : Sig} {M M' : Hp} {p q : Addr} (h : Emp Sg M p) (hn : M q = none) (e : ∀ b, b ≠ q → M' b = M b) (hx : Ext Sg Sg') : Emp Sg' M' p := by
  obtain ⟨x, b, h1, h2, h3⟩ := h
  exact ⟨x, b, by rw [e _ (cst_ne hn h1)]; exact h1, by rw [e _ (cst_ne hn h2)]; exact h2, hx _ _ h3 (by intro s z; cases z)⟩
theorem emp_chg {Sg : Sig} {M M' : Hp} {p q : Addr} {x y : V} (h : Emp Sg M p) (hpq : p ≠ q) (hq : M q = some (.lst [x, y])) (e : ∀ b, b ≠ q → M' b = M b) : Emp Sg M' p := by
  obtain ⟨x', b, h1, h2, h3⟩ := h
  have hb : b ≠ q := fun z => by rw [z, hq] at h2; cases h2
  exact ⟨x', b, by rw [e _ hpq]; exact h1, by rw [e _ hb]; exact h2, h3⟩
end N
/-! LU: the law: hopeful -/
namespace N
open PySem L2
theorem rd_catM {G M H : Hp} {a b : Addr} {xs ys : List V} {Q : VK} (S : Hs G M H) (h1 : H a = some (.lst xs)) (h2 : H b = some (.lst ys)) (hz : xs.length + ys.length ≤ sizeLine) (q : ∀ l M1 H1, (∀ b, b ≠ l → M1 b = M b) → Hs G M1 H1 → M1 l = some (.lst (xs ++ ys)) → M l = none → Q (.ref l) H1) : rCat (.ref a) (.ref b) H Q :=
  rd_cat h1 h2 hz fun l hl => q l _ _ (fun b hb => upd_ne hb) (S.newM hl) upd_same (S.fm hl)
section
variable {P : Program} {w : World} {K : PySem.W.Frag} {mg : Str → Option Value} {base : Heap}
def sp_l_hopeful : Sp := fun vs H Q _ => ∃ (G M : Hp) (R : Addr) (x : Wd) (cnt : Nat) (v1 : V), Hs G M H ∧ Rest M R ∧ vs = [v1, .int (cnt : Int), .ref R] ∧ rWd x v1 G ∧ WdOk x ∧ cnt ≤ 20 ∧ (x.sm ≠ [] → 3 ≤ x.rows.length) ∧
  ∀ G' M' H' Sg la LL, Same G G' → Cst x.rows.length R M Sg G' M' 100 la LL [] → LL.length = cnt → (∀ l ∈ LL, l.2.length ≤ 70000) → (∀ l, LL[cnt - 1]? = some l → ∀ p ∈ l.2, Emp Sg M' p.1) → Hs G' M' H' → Q (.ref la) H'
theorem ok_l_hopeful (T : Bt mg) (F : Dfn K mg "_law_hopeful" s_l_hopeful) (h_l_following : Has P w K mg base 4 "_law_following" ["_law_states", "_law_world_here", "_law_rest"] sp_l_following) (h_l_images : Has P w K mg base 2 "_law_images" ["_law_state", "_law_world_here"] sp_l_images)
    (h_l_wanted : Has P w K mg base 1 "_law_wanted" ["_law_states", "_law_world_here"] sp_l_wanted) (h_l_entry : Has P w K mg base 3 "_law_entry" ["_law_states", "_law_images_here", "_law_led", "_law_world_here", "_law_rest"] sp_l_entry) :
    Has P w K mg base 5 "_law_hopeful" ["_law_world_here", "_law_count", "_law_rest"] sp_l_hopeful := by
  refine F.ok sc_l_hopeful (fun _ _ _ _ _ _ us hl => match us, hl with | [_, _, _], _ => rfl) (fun vs H Q E h => by obtain ⟨_, _, _, _, _, _, _, _, rfl, _⟩ := h; rfl) (fun f cdv A outer s H vs Q E hr h => ?_)
  obtain ⟨G, M, R, x, cnt, v1, S, hR, rfl, hw, ok, hcnt, h3, k⟩ := h
  obtain ⟨wa, w1, w2, w3, w4, rfl, hwa, ⟨ra, rx, rfl, hra, ral⟩, hw2, hw3, ⟨sa, sx, rfl, hsa, sal⟩⟩ := id hw
  have hat0 : atI [V.ref ra, w2, w3, V.ref sa] 0 = some (.ref ra) := rfl
  have hat3 : atI [V.ref ra, w2, w3, V.ref sa] 3 = some (.ref sa) := rfl
  have hrl := ral.len
  have n16 := ok.n16
  have n2 := ok.n2
  refine ⟨_, (pss_cons (ps_set (i := 3) sc_l_hopeful.nd rfl (Or.inl rfl) (pe_lst (pa_cons (pe_listRg rfl (by rfl) T.list (prg_1 (by rfl) T.range (pe_callB (lenS K) (by rfl) T.len PySem.boot_len (pa_cons (pe_ix (ixL K) (pv 0) pe_int (fun _ _ => rfl)) pa_nil)))) pa_nil)))
    (pss_cons (ps_set (i := 4) sc_l_hopeful.nd rfl (Or.inl rfl) (pe_lst pa_nil))
    (pss_cons (ps_for PassesOwn.never rfl (pi_range1 (by rfl) T.range (pa_cons (pv 1) pa_nil)) (pg_name (i := 5) sc_l_hopeful.nd rfl (Or.inl rfl))
     (pss_cons (ps_if (pt_cmpR op_gt (pv 5) pe_int (nomark _))
      (pss_cons (ps_setLc (i := 6) (own := [("_law_state", 7)]) rfl sc_l_hopeful.nd rfl rfl (sw_true rfl rfl rfl (by decide +kernel)) (piL K (pv 3)) (blkOk_by (N := ["_law_world_here", "_law_count", "_law_rest", "_law_states", "_law_levels", "_law_at", "_law_images_here", "_law_state", "_law_pair", "_law_led"]) (sc := defScope s_l_hopeful) (by decide +kernel)) (fun _ _ _ _ _ => (pg_name (i := 7) sc_l_hopeful.nd rfl (Or.inl rfl))) (fun _ _ _ _ _ => pts_nil) (fun _ _ _ _ _ => (pe_fn h_l_images hr (pa_cons (pv 7) (pa_cons (pv 0) pa_nil)))))
      (pss_one (ps_for PassesOwn.never rfl (piL K (pe_ix (ixL K) (pv 4) (pe_op op_sub (pv 5) pe_int) (fun _ _ => rfl))) (pg_name (i := 8) sc_l_hopeful.nd rfl (Or.inl rfl))
       (pss_one (ps_for PassesOwn.never rfl (piL K (pe_fn h_l_wanted hr (pa_cons (pe_lst (pa_cons (pe_ix (ixL K) (pv 8) pe_int (fun _ _ => rfl)) pa_nil)) (pa_cons (pv 0) pa_nil)))) (pg_name (i := 9) sc_l_hopeful.nd rfl (Or.inl rfl))
        (pss_one (ps_asg (pe_op op_cat (pe_ix (ixL K) (pv 8) pe_int (fun _ _ => rfl)) (pe_fn h_l_entry hr (pa_cons (pv 3) (pa_cons (pv 6) (pa_cons (pv 9) (pa_cons (pv 0) (pa_cons (pv 2) pa_nil))))))) (pg_sub (pv 8) pe_int set_list))))))))
      pss_nil)
     (pss_cons (ps_expr (pe_bm PySem.F.plainAttrs_list PySem.F.slot_list_append PySem.F.type_list_append mt_append (pv 4) (pa_cons (pe_lc (own := [("_law_state", 7)]) rfl sc_l_hopeful.nd (piL K (pv 3)) (blkOk_by (N := ["_law_world_here", "_law_count", "_law_rest", "_law_states", "_law_levels", "_law_at", "_law_images_here", "_law_state", "_law_pair", "_law_led"]) (sc := defScope s_l_hopeful) (by decide +kernel)) (fun _ _ _ _ _ => (pg_name (i := 7) sc_l_hopeful.nd rfl (Or.inl rfl))) (fun _ _ _ _ _ => pts_nil) (fun _ _ _ _ _ => (pe_lst (pa_cons (pv 7) (pa_cons (pe_lst pa_nil) pa_nil))))) pa_nil)))
     (pss_one (ps_if (PW.pt (pw_and (pt_cmpR op_lt (pe_op op_add (pv 5) pe_int) (pv 1) (nomark _)) (pw_and1 (pt_cmpR op_gt (pe_callB (lenS K) (by rfl) T.len PySem.boot_len (pa_cons (pe_ix (ixL K) (pv 0) pe_int (fun _ _ => rfl)) pa_nil)) pe_int (nomark _)))))
      (pss_one (ps_set (i := 3) sc_l_hopeful.nd rfl (Or.inl rfl) (pe_fn h_l_following hr (pa_cons (pv 3) (pa_cons (pv 0) (pa_cons (pv 2) pa_nil))))))
      pss_nil)))))
    (pss_one (ps_ret (pv 4)))))), ?_⟩
  walk_at "rd"
  apply rd_lst
  walk_at "rd"
  refine rd_lstRg (n := rx.length) S (by intro R_ q_; walk_at "rd"; exact q_) (by omega) (fun l0 G1 H1 E1 S1 f1 => ?_)
  walk_at "rd"
  refine ⟨by simp [sizeLine_eq], fun sb0 hsb0 => ?_⟩
  obtain ⟨G2, E2, S2, f2⟩ := S1.addG (o := .lst [.ref l0]) hsb0
  walk_at "rd"
  refine al_lstM S2 (by walk_at "gv") (by simp) (fun la M3 H3 e3 S3 f3 n3 _ => ?_)
  have hlR : la ≠ R := rest_ne (o := .lst []) hR n3
  have c0 : Cst x.rows.length R M (fun _ => none) G2 M3 100 la [] [] := ⟨(fun a k h => by cases h), rest_set hR e3 hlR, rfl, f3, rfl, hlR, (fun l hl => by cases hl), n3, (fun b o h1 h2 => ⟨by rw [e3 _ (cst_ne n3 h2)]; exact h2, rfl⟩), (fun p hp => by simp [pairsOf] at hp), by simp [pairsOf]⟩
  have hst0 : rL rLI [(List.range rx.length).map fun (i : Nat) => ((i : Nat) : Int)] (.ref sb0) G2 := ⟨sb0, _, rfl, f2, All2.nil.cons ⟨l0, rfl, by rw [E2 _ _ f1, List.map_map]; rfl⟩⟩
  have hok0 : StsOk x [(List.range rx.length).map fun (i : Nat) => ((i : Nat) : Int)] := by
    refine ⟨by simp, by simp, fun s hs => ?_⟩
    rw [List.mem_singleton.mp hs]
    refine ⟨fun z => ?_, by simp; omega, fun c hc => ?_⟩
    · have := congrArg List.length z
      rw [List.length_map, List.length_range, hrl] at this
      simp at this
      have n2 := ok.n2
      rw [this] at n2
      simp at n2
    · obtain ⟨i, hi, rfl⟩ := List.mem_map.mp hc
      have := List.mem_range.mp hi
      constructor
      · exact Int.natCast_nonneg _
      · omega
  have E02 := E1.trans E2
  walk_at "rd"
  refine loopR (n := cnt) (fun i σ G' M' => ∃ sb z5 z6 z7 z8 z9 ss Sg LL, σ = [some (.ref wa), some (.int cnt), some (.ref R), some (.ref sb), some (.ref la), z5, z6, z7, z8, z9] ∧ Same G2 G' ∧ rL rLI ss (.ref sb) G' ∧ StsOk x ss ∧ Cst x.rows.length R M Sg G' M' 100 la LL [] ∧ LL.length = i ∧
      (∀ l ∈ LL, l.2.length ≤ 70000) ∧ ∀ l, LL[i - 1]? = some l → ∀ p ∈ l.2, Emp Sg M' p.1) S3 (by walk_at "gv") (by omega)
    ⟨sb0, _, _, _, _, _, _, _, [], rfl, Same.refl _, hst0, hok0, c0, rfl, (fun l hl => by cases hl), fun l hl => by simp at hl⟩ (fun i σ G3 M4 H4 hi hI S4 => ?_) (fun σ G3 M4 H4 hI S4 => ?_)
  · obtain ⟨sb, z5, z6, z7, z8, z9, ss, Sg, LL, rfl, E3, hss, hso, cst, hLL, hL7, hemp⟩ := hI
    obtain ⟨_, sxs, es, hsb, ssal⟩ := id hss
    cases es
    obtain ⟨hsne, hssz, hscd⟩ := hso
    have E03 := E02.trans E3
    have hLLv : M4 la = some (.lst (LL.map fun l => .ref l.1)) := cst.ml
    walk_at "rd"
    refine rd_ite (fun h0 => ?ca) (fun h0 => ?cb)
    case' ca =>
      walk_at "rd"
      have hi0 : 0 < i := by omega
      refine compL up_Im ((ss.map fun s => imM x s).map some) S4 (by walk_at "gv") hsb (by simp [ssal.len]) (by simp [sizeLine_eq]; omega) (by intro _; rfl) yes_all (fun i1 x1 y1 G5 M5 H5 hx1 ho E5 S5 Q' kk => ?im) (fun ib iacc G5 H5 E5 S5 e5 al5 => ?lp)
      case im =>
        have ey := some_at ho
        obtain ⟨s, es, hs⟩ := ssal.at hx1
        rw [List.getElem?_map, es] at ey
        cases ey
        walk_at "rd"
        refine ⟨G5, M5, (s, x), S5, ⟨_, _, rfl, up_LI _ _ _ _ E5 hs, up_Wd _ _ _ _ (E03.trans E5) hw, ok, hscd s (List.mem_of_getElem? es)⟩, fun v G6 H6 E6 S6 hv => ?_⟩
        exact kk v G6 H6 E6 S6 hv
      rw [filt_some] at al5
      have hiL : i - 1 < LL.length := by omega
      have hLi : LL[i - 1]? = some LL[i - 1] := List.getElem?_eq_getElem hiL
      obtain ⟨l, el⟩ : ∃ l, l = LL[i - 1] := ⟨_, rfl⟩
      rw [← el] at hLi
      have hlm := List.mem_of_getElem? hLi
      obtain ⟨L, ps⟩ := l
      have hmL := (cst.mL _ hlm).1
      dsimp only at hmL
      have hps7 := hL7 _ hlm
      have hatL : atI (LL.map fun l => V.ref l.1) ((i : Int) - 1) = some (.ref L) := at_of (j := i - 1) (by omega) (by rw [List.getElem?_map, hLi]; rfl)
      have hE0 := hemp _ hLi
      have cst5 := cst_same cst E5
      have hpm : ∀ p ∈ ps, p ∈ pairsOf LL ++ [] := fun p hp => List.mem_append_left _ (List.mem_flatMap.mpr ⟨_, hlm, hp⟩)
      have hndp : (ps.map (·.1)).Nodup := by
        have h1 := cst.nd
        rw [List.append_nil] at h1
        have h2 : (ps.map (·.1)).Sublist ((pairsOf LL).map (·.1)) := by
          refine List.Sublist.map _ ?_
          have := List.sublist_flatten_of_mem (List.mem_map.mpr ⟨_, hlm, rfl⟩ : ps ∈ LL.map (·.2))
          rw [← List.flatMap_def] at this
          exact this
        exact h1.sublist h2
      walk_at "rd"
      refine loopL (refs ps) (fun j σ G' M' => ∃ z7 z8 z9 Sg', σ = [some (.ref wa), some (.int cnt), some (.ref R), some (.ref sb), some (.ref la), some (.int i), some (.ref ib), z7, z8, z9] ∧ Same G5 G' ∧ Cst x.rows.length R M Sg' G' M' 100 la LL [] ∧
          ∀ j' p, j ≤ j' → ps[j']? = some p → Emp Sg' M' p.1) S5 (by walk_at "gv")
        ⟨_, _, _, Sg, rfl, Same.refl _, cst5, fun j' p _ hp => hE0 p (List.mem_of_getElem? hp)⟩ (fun j σ G' M' hI H' S' => ?hl) (fun j x3 σ G' M' H' hx3 hI S' => ?st) (fun σ Gn Mn Hn hI Sn => ?dn)
      case hl =>
        obtain ⟨_, _, _, _, rfl, _, c', _⟩ := hI
        exact S'.m _ _ (c'.mL _ hlm).1
      case st =>
        obtain ⟨z7, z8, z9, Sg', rfl, E', c', hE⟩ := hI
        have hj : j < ps.length := by
          have := (List.getElem?_eq_some_iff.mp hx3).1
          rw [refs, List.length_map] at this
          exact this
        have hpj : ps[j]? = some ps[j] := List.getElem?_eq_getElem hj
        obtain ⟨ps0, eps0⟩ : ∃ z, z = ps[j] := ⟨_, rfl⟩
        rw [← eps0] at hpj
        obtain ⟨p, s⟩ := ps0
        have hx4 := hx3
        rw [refs, List.getElem?_map, hpj] at hx4
        cases hx4
        have hpp := List.mem_of_getElem? hpj
        have hpk := c'.pk _ (hpm _ hpp)
        dsimp only at hpk
        obtain ⟨_, hMp, xv, b0, rfl, hxv, hcd, hsb0⟩ := c'.st p _ hpk
        obtain ⟨x', b', hMp', hMb, _⟩ := hE j _ (Nat.le_refl _) hpj
        dsimp only at hMp'
        rw [hMp] at hMp'
        cases hMp'
        have hp0 : atI [xv, V.ref b0] 0 = some xv := rfl
        walk_at "rd"
        apply rd_fL
        walk_at "rd"
        refine al_lst S' (by walk_at "gv") (by simp [sizeLine_eq]) (fun l6 G6 H6 E6 S6 f6 => ?_)
        have E06 := ((E03.trans E5).trans E').trans E6
        walk_at "rd"
        refine ⟨G6, M', ([s], x), S6, ⟨_, _, rfl, ⟨l6, _, rfl, f6, All2.nil.cons (up_LI _ _ _ _ E6 hxv)⟩, up_Wd _ _ _ _ E06 hw, ok, fun s' hs' => by rw [List.mem_singleton.mp hs']; exact hcd, by simp⟩, fun v G7 H7 E7 S7 ⟨ws, ⟨wb, wx, ev, hwb, wal⟩, wk⟩ => ?_⟩
        cases ev
        have hwcd := want_cd ok (fun s' hs' => by rw [List.mem_singleton.mp hs']; exact hcd) wk
        have hwsz : wx.length ≤ 9 := by
          rw [wal.len, wk.sz, List.length_singleton, Nat.mul_one]
          exact ok.sz
        have c7 := cst_same (cst_same c' E6) E7
        have E07 := E06.trans E7
        refine loopL wx (fun q σ G8 M8 => ∃ z9 Sg8 cs b1, σ = [some (.ref wa), some (.int cnt), some (.ref R), some (.ref sb), some (.ref la), some (.int i), some (.ref ib), z7, some (.ref p), z9] ∧ Same G7 G8 ∧ Cst x.rows.length R M Sg8 G8 M8 100 la LL [] ∧
            M8 p = some (.lst [xv, .ref b1]) ∧ M8 b1 = some (.lst cs) ∧ cs.length ≤ q ∧ Sg8 b1 = some .covs ∧ ∀ j' p', j + 1 ≤ j' → ps[j']? = some p' → Emp Sg8 M8 p'.1) S7 gv_cE
          ⟨_, Sg', [], b0, rfl, Same.refl _, c7, hMp, hMb, Nat.le_refl _, hsb0, fun j' p' hj' hp' => hE j' p' (by omega) hp'⟩ (fun q σ G8 M8 hI H8 S8 => ?_) (fun q x5 σ G8 M8 H8 hx5 hI S8 => ?_) (fun σ G8 M8 H8 hI S8 => ?_)
        · obtain ⟨_, _, _, _, rfl, E8, _⟩ := hI
          exact S8.g _ _ (E8 _ _ hwb)
        · obtain ⟨z9, Sg8, cs, b1, rfl, E8, c8, g1, g2, hcs, hb1, hE8⟩ := hI
          obtain ⟨led, eled, lb, rfl, hlb⟩ := wal.at hx5
          have hlcd := hwcd led (List.mem_of_getElem? eled)
          have hq9 : q < 9 := by
            have := (List.getElem?_eq_some_iff.mp hx5).1
            omega
          have E08 := E07.trans E8
          have hp1 : atI [xv, V.ref b1] 1 = some (.ref b1) := rfl
          have E38 := ((E5.trans E').trans (E6.trans E7)).trans E8
          have E58 := (E'.trans (E6.trans E7)).trans E8
          walk_at "rd"
          refine ⟨G8, M8, R, (ss, ss.map (fun s => imM x s), led, x), S8, c8.re, ⟨_, _, _, _, _, rfl, up_L up_LI _ _ _ _ E38 hss, ⟨ib, iacc, rfl, E58 _ _ e5, al5.up up_Im E58⟩, ⟨lb, rfl, E8 _ _ hlb⟩, up_Wd _ _ _ _ E08 hw, rfl, ok, hsne, hssz, by dsimp only; rw [List.length_map]; exact hssz, fun im him => by
            obtain ⟨s', _, rfl⟩ := List.mem_map.mp him
            rw [imM, List.length_map], hlcd⟩, fun v G9 M9 H9 E9 O9 R9 S9 ⟨es, ⟨eb, ex, ev, heb, eal⟩, hel, hez⟩ => ?_⟩
          subst ev
          have c9 := cst_draw c8 E9 O9 R9
          have hpk8 := c8.pk _ (hpm _ hpp)
          dsimp only at hpk8
          have hpR : p ≠ R := fun z => by have := c8.hR; rw [← z, hpk8] at this; cases this
          have hbR : b1 ≠ R := fun z => by have := c8.hR; rw [← z, hb1] at this; cases this
          have g1' : M9 p = some (.lst [xv, .ref b1]) := by rw [O9 _ hpR]; exact g1
          have g2' : M9 b1 = some (.lst cs) := by rw [O9 _ hbR]; exact g2
          have hexl := eal.len
          refine rd_catM S9 (S9.m _ _ g2') (S9.g _ _ heb) (by rw [sizeLine_eq]; omega) (fun l M10 H10 e10 S10 f10 n10 => ?_)
          obtain ⟨_, hkc, _, hce⟩ := c9.st b1 _ hb1
          rw [g2'] at hkc
          cases hkc
          obtain ⟨c10, x10⟩ := cst_new (k := .covs) c9 n10 e10 f10 ⟨by rw [List.length_append]; omega, fun y hy => by
            rcases List.mem_append.mp hy with hy | hy
            · exact hce y hy
            · obtain ⟨iy, hiy⟩ := List.getElem?_of_mem hy
              obtain ⟨en, een, hen⟩ := eal.at hiy
              exact ⟨en, hen, by have := hez en (List.mem_of_getElem? een); omega⟩⟩
          have hpl := cst_ne n10 g1'
          have g10 : M10 p = some (.lst [xv, .ref b1]) := by rw [e10 _ hpl]; exact g1'
          have hpk10 := c10.pk _ (hpm _ hpp)
          dsimp only at hpk10
          walk_at "rd"
          refine rd_setM S10 g10 (show ixN _ 1 = some 1 from rfl) (fun M11 H11 e11 S11 f11 => ?_)
          have c11 := cst_chg c10 hpk10 e11 f11 ⟨xv, l, rfl, up_LI _ _ _ _ ((E6.trans E7).trans (E8.trans E9)) hxv, hcd, upS_same⟩
          have hlp : l ≠ p := hpl.symm
          refine ⟨_, _, S11, _, _, cs ++ ex, l, rfl, E8.trans E9, c11, f11, by rw [e11 _ hlp]; exact f10, by rw [List.length_append]; omega, upS_same, fun j' p' hj' hp' => ?_⟩
          have hpp' := List.mem_of_getElem? hp'
          have hk' := c8.pk _ (hpm _ hpp')
          have hne : p'.1 ≠ p := fun z => by
            have hj'l := (List.getElem?_eq_some_iff.mp hp').1
            have h1 : (ps.map (·.1))[j']? = some p := by rw [List.getElem?_map, hp', ← z]; rfl
            have h2 : (ps.map (·.1))[j]? = some p := by rw [List.getElem?_map, hpj]; rfl
            have := (List.getElem?_inj (by rw [List.length_map]; exact hj'l) hndp).mp (h1.trans h2.symm)
            omega
          have hpR' : p'.1 ≠ R := fun z => by have := c8.hR; rw [← z, hk'] at this; cases this
          exact emp_chg (emp_new (emp_draw (hE8 j' p' hj' hp') O9 hpR' c8.hR) n10 e10 x10) hne g10 e11
        · obtain ⟨z9, Sg8, cs, b1, rfl, E8, c8, g1, g2, hcs, hb1, hE8⟩ := hI
          exact ⟨_, _, S8, _, _, _, Sg8, rfl, E'.trans ((E6.trans E7).trans E8), c8, hE8⟩
      obtain ⟨z7, z8, z9, Sgn, rfl, En', cn, _⟩ := hI
      have En := E5.trans En'
    case' cb =>
      obtain ⟨Gn, eGn⟩ : ∃ z, z = G3 := ⟨_, rfl⟩
      obtain ⟨Mn, eMn⟩ : ∃ z, z = M4 := ⟨_, rfl⟩
      obtain ⟨Sgn, eSgn⟩ : ∃ z, z = Sg := ⟨_, rfl⟩
      have Sn : Hs Gn Mn H4 := by rw [eGn, eMn]; exact S4
      have cn : Cst x.rows.length R M Sgn Gn Mn 100 la LL [] := by rw [eGn, eMn, eSgn]; exact cst
      have En : Same G3 Gn := by rw [eGn]; exact Same.refl _
    all_goals
      have E0n := E03.trans En
      have ssal := ssal.up up_LI En
      have hsbn := En _ _ hsb
      have hmln := cn.ml
      have hll20 : (LL.map fun l => V.ref l.1).length < sizeLine := by rw [List.length_map, sizeLine_eq]; omega
      walk_at "rd"
      refine ⟨ty_lst (Sn.m _ _ hmln), ?_⟩
      walk_at "rd"
      refine leafLM (fun j G' M' acc => ∃ Sg' op, Same Gn G' ∧ Cst x.rows.length R M Sg' G' M' 100 la LL op ∧ acc = refs op ∧ op.length = j ∧ ∀ p ∈ op, Emp Sg' M' p.1) Sn (by walk_at "gv")
        ⟨Sgn, [], Same.refl _, cn, rfl, rfl, fun p hp => by cases hp⟩ (fun j D G' M' H' acc S' hm hI => ?_) (Sn.g _ _ hsbn) (fun j D y G' M' H' acc hy S' hm hI => ?_) (fun D G' M' acc H' hI S' hm => ?_)
      · obtain ⟨_, _, E', _⟩ := hI
        exact S'.g _ _ (E' _ _ hsbn)
      · obtain ⟨Sg', op, E', c', hacc, hopl, hE⟩ := hI
        obtain ⟨s, es, lb, rfl, hlb⟩ := ssal.at hy
        have hcd := hscd s (List.mem_of_getElem? es)
        have hjs : j < ss.length := (List.getElem?_eq_some_iff.mp es).1
        have hpne : ∀ {M5 : Hp} {p : Addr} {o : HO}, M5 D = some o → M5 p = none → D ≠ p := fun h1 h2 z => by subst z; rw [h1] at h2; cases h2
        refine ⟨rfl, rd_yes (iteT ?_)⟩
        apply rd_lst
        walk_at "rd"
        refine al_lstM S' (by walk_at "gv") (by simp) (fun l1 M5 H5 e5 S5 f5 n5 _ => ?_)
        have hD1 := hpne hm n5
        obtain ⟨a1, a2, a3⟩ := del_new hD1 e5 f5 n5
        obtain ⟨c5, x5⟩ := cst_new (k := .covs) c' a3 a1 a2 ⟨Nat.zero_le _, fun z hz => by cases hz⟩
        have hm5 : M5 D = some (.lst acc) := by rw [e5 _ hD1]; exact hm
        walk_at "rd"
        refine ⟨by simp [sizeLine_eq], fun l2 hl2 => ?_⟩
        obtain ⟨M6, e6, S6, f6⟩ := S5.addM (o := .lst [.ref lb, .ref l1]) hl2
        have hn6 := S5.fm hl2
        have hD2 := hpne hm5 hn6
        obtain ⟨b1, b2, b3⟩ := del_new hD2 e6 f6 hn6
        have c6 := cst_pair (s := s) c5 b3 b1 b2 ⟨_, l1, rfl, ⟨lb, rfl, E' _ _ hlb⟩, hcd, upS_same⟩
        have x6 : Ext (upS Sg' l1 .covs) (upS (upS Sg' l1 .covs) l2 (.cpair s)) := ext_new (.inl (c5.st.no b3))
        have hm6 : M6 D = some (.lst acc) := by rw [e6 _ hD2]; exact hm5
        refine ⟨acc, S6.m _ _ hm6, by rw [hacc, refs, List.length_map, hopl, sizeLine_eq]; omega, nc_push S6 hm6 ⟨_, op ++ [(l2, s)], E', c6, by rw [hacc, refs, refs, List.map_append]; rfl, by rw [List.length_append, hopl]; rfl, fun p hp => ?_⟩⟩
        rcases List.mem_append.mp hp with hp | hp
        · exact emp_new (emp_new (hE p hp) a3 a1 x5) b3 b1 x6
        · rw [List.mem_singleton.mp hp]
          exact ⟨.ref lb, l1, b2, by rw [b1 _ (cst_ne b3 a2)]; exact a2, x6 _ _ upS_same (by intro s z; cases z)⟩
      · obtain ⟨Sg', op, E', c', hacc, hopl, hE⟩ := hI
        rw [ssal.len] at hopl
        have hlaD : la ≠ D := cst_ne (o := .lst (LL.map fun l => V.ref l.1)) (M := del M' D) del_same c'.ml
        have hml' : M' la = some (.lst (LL.map fun l => V.ref l.1)) := by
          have := c'.ml
          rw [del_ne hlaD] at this
          exact this
        walk_at "rd"
        refine rd_appM S' hml' hll20 (fun M7 H7 e7 S7 f7 => ?_)
        have c7 := cst_close c' (by rw [hm, hacc]) e7 f7
        have hE7 : ∀ p ∈ op, Emp Sg' M7 p.1 := fun p hp => by
          obtain ⟨xv, b, h1, h2, h3⟩ := hE p hp
          have hk := c'.pk p (List.mem_append_right _ hp)
          have q1 : p.1 ≠ la := fun z => by have := c'.nl; rw [← z, hk] at this; cases this
          have q2 : b ≠ la := fun z => by have := c'.nl; rw [← z, h3] at this; cases this
          have q3 : p.1 ≠ D := cst_ne (M := del M' D) del_same h1
          have q4 : b ≠ D := cst_ne (M := del M' D) del_same h2
          rw [del_ne q3] at h1
          rw [del_ne q4] at h2
          exact ⟨xv, b, by rw [e7 _ q1]; exact h1, by rw [e7 _ q2]; exact h2, h3⟩
        have hnew : (LL ++ [(D, op)])[i]? = some (D, op) := by rw [List.getElem?_append_right (by omega), hLL, Nat.sub_self]; rfl
        have hL7' : ∀ l ∈ LL ++ [(D, op)], l.2.length ≤ 70000 := fun l hl => by
          rcases List.mem_append.mp hl with hl | hl
          · exact hL7 l hl
          · rw [List.mem_singleton.mp hl]
            dsimp only
            omega
        have hlen' : (LL ++ [(D, op)]).length = i + 1 := by rw [List.length_append, hLL]; rfl
        have E0' := E0n.trans E'
        have hss' : rL rLI ss (.ref sb) G' := up_L up_LI _ _ _ _ (En.trans E') hss
        have hwa' := E0' _ _ hwa
        have hsa' := E0' _ _ hsa
        walk_at "rd"
        refine rd_ite (fun h1 => ?_) (fun h1 => ?_)
        · walk_at "rd"
          refine rd_ite (fun h2 => ?_) (fun h2 => ?_)
          · have hsm : x.sm ≠ [] := fun z => by
              have := sal.len
              rw [z] at this
              simp at this
              rw [this] at h2
              simp at h2
            walk_at "rd"
            refine ⟨G', M7, R, (ss, x), S7, c7.re, ⟨_, _, _, rfl, hss', up_Wd _ _ _ _ E0' hw, rfl, ok, ⟨hsne, hssz, hscd⟩, hsm, h3 hsm⟩, fun v G8 M8 H8 E8 O8 R8 S8 ⟨ss2, hss2, hso2⟩ => ?_⟩
            obtain ⟨sb2, _, ev, _⟩ := id hss2
            subst ev
            walk_at "rd"
            refine ⟨_, _, S8, sb2, _, _, _, _, _, ss2, Sg', LL ++ [(D, op)], rfl, (E3.trans (En.trans E')).trans E8, hss2, hso2, cst_draw c7 E8 O8 R8, hlen', hL7', fun l hl p hp => ?_⟩
            rw [Nat.add_sub_cancel, hnew] at hl
            cases hl
            have hk := c'.pk p (List.mem_append_right _ hp)
            exact emp_draw (hE7 p hp) O8 (fun z => by have := c7.hR; rw [← z, hk] at this; cases this) c7.hR
          · walk_at "rd"
            refine ⟨_, _, S7, sb, _, _, _, _, _, ss, Sg', LL ++ [(D, op)], rfl, E3.trans (En.trans E'), hss', ⟨hsne, hssz, hscd⟩, c7, hlen', hL7', fun l hl p hp => ?_⟩
            rw [Nat.add_sub_cancel, hnew] at hl
            cases hl
            exact hE7 p hp
        · refine iteF ?_
          walk_at "rd"
          refine ⟨_, _, S7, sb, _, _, _, _, _, ss, Sg', LL ++ [(D, op)], rfl, E3.trans (En.trans E'), hss', ⟨hsne, hssz, hscd⟩, c7, hlen', hL7', fun l hl p hp => ?_⟩
          rw [Nat.add_sub_cancel, hnew] at hl
          cases hl
          exact hE7 p hp
  · obtain ⟨sb, z5, z6, z7, z8, z9, ss, Sg, LL, rfl, E3, hss, hso, cst, hLL, hL7, hemp⟩ := hI
    walk_at "rd"
    exact k G3 M4 H4 Sg la LL (E02.trans E3) cst hLL hL7 hemp S4
end
end N
/-! LV: pairs of codes become pairs of rows; the law: ended -/
namespace N
open PySem L2
structure Cvt (n : Nat) (R : Addr) (M0 : Hp) (Sg : Sig) (G M : Hp) (B : Nat) (la : Addr) (LL : List Lvl) (pend : List (Addr × Row)) : Prop where
  st : Sto n Sg G M B
  re : Rest M R
  hR : Sg R = none
  ml : M la = some (.lst (LL.map fun l => .ref l.1))
  nl : Sg la = none
  lR : la ≠ R
  mL : ∀ l ∈ LL, M l.1 = some (.lst (refs l.2)) ∧ Sg l.1 = none ∧ l.1 ≠ R ∧ l.1 ≠ la ∧ M0 l.1 = none
  fl : M0 la = none
  fr : ∀ b o, b ≠ R → M0 b = some o → M b = some o ∧ Sg b = none
  pk : ∀ p ∈ pend, Sg p.1 = some (.cpair p.2)
  nd : (pend.map (·.1)).Nodup
  dn : ∀ l ∈ LL, ∀ p ∈ l.2, p ∈ pend ∨ Sg p.1 = some .pair
section
variable {n B : Nat} {R la p : Addr} {M0 : Hp} {Sg : Sig} {G G' M M' : Hp} {LL : List Lvl} {op : List (Addr × Row)} {k : Kd} {xs : List V}
theorem cvt_of (h : Cst n R M0 Sg G M B la LL []) : Cvt n R M0 Sg G M B la LL (pairsOf LL) :=
  ⟨h.st, h.re, h.hR, h.ml, h.nl, h.lR, h.mL, h.fl, h.fr, fun p hp => h.pk p (List.mem_append_left _ hp), by have := h.nd; rw [List.append_nil] at this; exact this, fun l hl p hp => .inl (List.mem_flatMap.mpr ⟨l, hl, hp⟩)⟩
theorem cvt_draw (h : Cvt n R M0 Sg G M B la LL op) (E : Same G G') (O : Off (· = R) M M') (re : Rest M' R) : Cvt n R M0 Sg G' M' B la LL op :=
  ⟨(h.st.rest O h.hR).up E (Nat.le_refl _), re, h.hR, by rw [O la h.lR]; exact h.ml, h.nl, h.lR, fun l hl => let ⟨a, b, c, d⟩ := h.mL l hl; ⟨by rw [O _ c]; exact a, b, c, d⟩, h.fl, fun b o h1 h2 => ⟨by rw [O b h1]; exact (h.fr b o h1 h2).1, (h.fr b o h1 h2).2⟩, h.pk, h.nd, h.dn⟩
theorem cvt_same (h : Cvt n R M0 Sg G M B la LL op) (E : Same G G') : Cvt n R M0 Sg G' M B la LL op := cvt_draw h E off_refl h.re
theorem cvt_new (h : Cvt n R M0 Sg G M B la LL op) (hn : M p = none) (e : ∀ b, b ≠ p → M' b = M b) (f : M' p = some (.lst xs)) (ok : okL n Sg G B k xs) : Cvt n R M0 (upS Sg p k) G M' B la LL op ∧ Ext Sg (upS Sg p k) := by
  have hno := h.st.no hn
  have hx : Ext Sg (upS Sg p k) := ext_new (.inl hno)
  obtain ⟨ns, hns⟩ := h.re
  have hpR := cst_ne hn hns
  have hpl := cst_ne hn h.ml
  have ku : ∀ {q : Addr} {kd : Kd}, Sg q = some kd → upS Sg p k q = some kd := fun {q kd} hq => by
    have hne : q ≠ p := fun z => by rw [z, hno] at hq; cases hq
    rw [upS_ne hne]
    exact hq
  refine ⟨⟨h.st.set (Nat.le_refl _) e f hx (okL_up hx (Same.refl _) (Nat.le_refl _) ok), ⟨ns, by rw [e _ hpR]; exact hns⟩, by rw [upS_ne hpR]; exact h.hR, by rw [e _ hpl]; exact h.ml, by rw [upS_ne hpl]; exact h.nl, h.lR, fun l hl => ?_, h.fl, fun b o h1 h2 => ?_, fun q hq => ku (h.pk q hq), h.nd, fun l hl q hq => (h.dn l hl q hq).imp id ku⟩, hx⟩
  · obtain ⟨a, b, c, d⟩ := h.mL l hl
    have hq := cst_ne hn a
    exact ⟨by rw [e _ hq]; exact a, by rw [upS_ne hq]; exact b, c, d⟩
  · obtain ⟨a, b'⟩ := h.fr b o h1 h2
    have hq := cst_ne hn a
    exact ⟨by rw [e _ hq]; exact a, by rw [upS_ne hq]; exact b'⟩
theorem cvt_set {Sg' : Sig} (h : Cvt n R M0 Sg G M B la LL op) (hk : Sg p = some k) (hs : ∀ b, b ≠ p → Sg' b = Sg b) (hp : Sg' p ≠ none) (st : Sto n Sg' G M' B) (e : ∀ b, b ≠ p → M' b = M b) {op' : List (Addr × Row)}
    (pk : ∀ p ∈ op', Sg' p.1 = some (.cpair p.2)) (nd : (op'.map (·.1)).Nodup) (dn : ∀ l ∈ LL, ∀ p ∈ l.2, p ∈ op' ∨ Sg' p.1 = some .pair) : Cvt n R M0 Sg' G M' B la LL op' := by
  have hR : R ≠ p := fun z => by have := h.hR; rw [z, hk] at this; cases this
  have hl : la ≠ p := fun z => by have := h.nl; rw [z, hk] at this; cases this
  obtain ⟨ns, hns⟩ := h.re
  refine ⟨st, ⟨ns, by rw [e _ hR]; exact hns⟩, by rw [hs _ hR]; exact h.hR, by rw [e _ hl]; exact h.ml, by rw [hs _ hl]; exact h.nl, h.lR, fun l hl' => ?_, h.fl, fun b o h1 h2 => ?_, pk, nd, dn⟩
  · obtain ⟨a, b, c, d⟩ := h.mL l hl'
    have hq : l.1 ≠ p := fun z => by rw [z, hk] at b; cases b
    exact ⟨by rw [e _ hq]; exact a, by rw [hs _ hq]; exact b, c, d⟩
  · obtain ⟨a, b'⟩ := h.fr b o h1 h2
    have hq : b ≠ p := fun z => by rw [z, hk] at b'; cases b'
    exact ⟨by rw [e _ hq]; exact a, by rw [hs _ hq]; exact b'⟩
theorem cvt_chg (h : Cvt n R M0 Sg G M B la LL op) (hk : Sg p = some k) (e : ∀ b, b ≠ p → M' b = M b) (f : M' p = some (.lst xs)) (ok : okL n Sg G B k xs) : Cvt n R M0 Sg G M' B la LL op :=
  cvt_set h hk (fun _ _ => rfl) (by rw [hk]; exact Option.some_ne_none _) (h.st.chg (Nat.le_refl _) e f hk ok) e h.pk h.nd h.dn
theorem cvt_conv {s : Row} (h : Cvt n R M0 Sg G M B la LL ((p, s) :: op)) (e : ∀ b, b ≠ p → M' b = M b) (f : M' p = some (.lst xs)) (ok : okL n Sg G B .pair xs) : Cvt n R M0 (upS Sg p .pair) G M' B la LL op ∧ Ext Sg (upS Sg p .pair) := by
  have hk := h.pk _ (List.mem_cons_self ..)
  have hx : Ext Sg (upS Sg p .pair) := ext_new (.inr ⟨s, hk⟩)
  have hnd := h.nd
  rw [List.map_cons, List.nodup_cons] at hnd
  refine ⟨cvt_set h hk (fun b hb => upS_ne hb) (by rw [upS_same]; exact Option.some_ne_none _) (h.st.set (Nat.le_refl _) e f hx (okL_up hx (Same.refl _) (Nat.le_refl _) ok)) e (fun q hq => ?_) hnd.2 fun l hl q hq => ?_, hx⟩
  · have hne : q.1 ≠ p := fun z => hnd.1 (z ▸ List.mem_map.mpr ⟨q, hq, rfl⟩)
    rw [upS_ne hne]
    exact h.pk q (List.mem_cons_of_mem _ hq)
  · by_cases hz : q.1 = p
    · exact .inr (by rw [hz, upS_same])
    · rcases h.dn l hl q hq with h1 | h1
      · rcases List.mem_cons.mp h1 with h2 | h2
        · exact absurd (by rw [h2]) hz
        · exact .inl h2
      · exact .inr (by rw [upS_ne hz]; exact h1)
end
/-- a pair with few covers -/
def EmpN (Sg : Sig) (M : Hp) (p : Addr) (k : Nat) : Prop := ∃ x b cs, M p = some (.lst [x, .ref b]) ∧ M b = some (.lst cs) ∧ Sg b = some .covs ∧ cs.length ≤ k
theorem empN_of {Sg : Sig} {M : Hp} {p : Addr} (h : Emp Sg M p) : EmpN Sg M p 0 := by
  obtain ⟨x, b, h1, h2, h3⟩ := h
  exact ⟨x, b, [], h1, h2, h3, Nat.le_refl _⟩
theorem empN_draw {Sg : Sig} {M M' : Hp} {p R : Addr} {k : Nat} (h : EmpN Sg M p k) (O : Off (· = R) M M') (hp : p ≠ R) (hR : Sg R = none) : EmpN Sg M' p k := by
  obtain ⟨x, b, cs, h1, h2, h3, h4⟩ := h
  have hb : b ≠ R := fun z => by rw [z, hR] at h3; cases h3
  exact ⟨x, b, cs, by rw [O _ hp]; exact h1, by rw [O _ hb]; exact h2, h3, h4⟩
theorem empN_new {Sg Sg' : Sig} {M M' : Hp} {p q : Addr} {k : Nat} (h : EmpN Sg M p k) (hn : M q = none) (e : ∀ b, b ≠ q → M' b = M b) (hx : Ext Sg Sg') : EmpN Sg' M' p k := by
  obtain ⟨x, b, cs, h1, h2, h3, h4⟩ := h
  exact ⟨x, b, cs, by rw [e _ (cst_ne hn h1)]; exact h1, by rw [e _ (cst_ne hn h2)]; exact h2, hx _ _ h3 (by intro s z; cases z), h4⟩
theorem empN_keep {Sg Sg' : Sig} {M M' : Hp} {p q : Addr} {k k' : Nat} (h : EmpN Sg M p k) (hk : k ≤ k') (hpq : p ≠ q) (e : ∀ b, b ≠ q → M' b = M b) (hx : Ext Sg Sg') (hq : Sg q ≠ some .covs ∨ ∃ cs, M' q = some (.lst cs) ∧ cs.length ≤ k') : EmpN Sg' M' p k' := by
  obtain ⟨x, b, cs, h1, h2, h3, h4⟩ := h
  have h5 := hx _ _ h3 (by intro s z; cases z)
  by_cases hb : b = q
  · subst hb
    rcases hq with hq | ⟨cs', q1, q2⟩
    · exact absurd h3 hq
    · exact ⟨x, b, cs', by rw [e _ hpq]; exact h1, q1, h5, q2⟩
  · exact ⟨x, b, cs, by rw [e _ hpq]; exact h1, by rw [e _ hb]; exact h2, h5, by omega⟩
theorem rd_notV {te : TE} {σ : L2.St} {H : Hp} {Q : VK} (h : te σ H fun x H1 => ∃ k, x = .bl k ∧ Q (.bl (!k)) H1) : tNotV te σ H Q := h
/-- rows for codes -/
def decM (x : Wd) (s : Row) : List Row := s.map fun c => x.rows.getD c.toNat []
theorem decM_in {x : Wd} (ok : WdOk x) {s : Row} (h : CdOk x.rows.length s) : decM x s ≠ [] ∧ (decM x s).length ≤ 16 ∧ ∀ r ∈ decM x s, r ≠ [] ∧ r.length ≤ 4 := by
  refine ⟨fun z => h.1 (List.map_eq_nil_iff.mp z), by rw [decM, List.length_map]; exact h.2.1, fun r hr => ?_⟩
  obtain ⟨c, hc, rfl⟩ := List.mem_map.mp hr
  obtain ⟨h0, h1⟩ := h.2.2 c hc
  have hl : c.toNat < x.rows.length := by omega
  rw [List.getD_eq_getElem?_getD, List.getElem?_eq_getElem hl]
  exact ok.rows _ (List.getElem_mem hl)
section
variable {P : Program} {w : World} {K : PySem.W.Frag} {mg : Str → Option Value} {base : Heap}
def sp_l_ended : Sp := fun vs H Q _ => ∃ (G M : Hp) (R : Addr) (x : Wd) (v1 : V) (M0 : Hp) (Sg : Sig) (la L : Addr) (LL : List Lvl) (ps rest : List (Addr × Row)), Hs G M H ∧ vs = [.ref L, v1, .ref R] ∧ rWd x v1 G ∧ WdOk x ∧
  Cvt x.rows.length R M0 Sg G M 100 la LL (ps ++ rest) ∧ (L, ps) ∈ LL ∧ ps.length ≤ 70000 ∧ (∀ p ∈ ps, Emp Sg M p.1) ∧ ∀ G' M' H' Sg', Same G G' → Cvt x.rows.length R M0 Sg' G' M' 100 la LL rest → Hs G' M' H' → Q .non H'
theorem ok_l_ended (T : Bt mg) (F : Dfn K mg "_law_ended" s_l_ended) (h_l_draw : Has P w K mg base 1 "_law_draw" ["_law_rest", "_law_limit"] sp_l_draw) (h_l_unsettled : Has P w K mg base 1 "_law_unsettled" ["_law_state", "_law_rows_here"] sp_l_unsettled) :
    Has P w K mg base 2 "_law_ended" ["_law_level", "_law_world_here", "_law_rest"] sp_l_ended := by
  refine F.ok sc_l_ended (fun _ _ _ _ _ _ us hl => match us, hl with | [_, _, _], _ => rfl) (fun vs H Q E h => by obtain ⟨_, _, _, _, _, _, _, _, _, _, _, _, _, rfl, _⟩ := h; rfl) (fun f cdv A outer s H vs Q E hr h => ?_)
  obtain ⟨G, M, R, x, v1, M0, Sg, la, L, LL, ps, rest, S, rfl, hw, ok, cv, hL, hps7, hemp, k⟩ := h
  obtain ⟨wa, w1, w2, w3, w4, rfl, hwa, ⟨ra, rx, rfl, hra, ral⟩, ⟨na, nx, rfl, hna, nal⟩, hw3, hw4⟩ := id hw
  have hat0 : atI [V.ref ra, V.ref na, w3, w4] 0 = some (.ref ra) := rfl
  have hat1 : atI [V.ref ra, V.ref na, w3, w4] 1 = some (.ref na) := rfl
  have hnd0 := cv.nd
  refine ⟨_, (pss_one (ps_for PassesOwn.never rfl (piL K (pv 0)) (pg_name (i := 3) sc_l_ended.nd rfl (Or.inl rfl))
     (pss_cons (ps_set (i := 4) sc_l_ended.nd rfl (Or.inl rfl) (pe_not (pe_fn h_l_unsettled hr (pa_cons (pe_ix (ixL K) (pv 3) pe_int (fun _ _ => rfl)) (pa_cons (pe_ix (ixL K) (pv 1) pe_int (fun _ _ => rfl)) pa_nil)))))
     (pss_cons (ps_set (i := 5) sc_l_ended.nd rfl (Or.inl rfl) (pe_fn h_l_draw hr (pa_cons (pv 2) (pa_cons pe_int pa_nil))))
     (pss_cons (ps_asg (pe_lc (own := [("_law_code_here", 6)]) rfl sc_l_ended.nd (piL K (pe_ix (ixL K) (pv 3) pe_int (fun _ _ => rfl))) (blkOk_by (N := ["_law_level", "_law_world_here", "_law_rest", "_law_pair", "_law_settled", "_law_choice", "_law_code_here"]) (sc := defScope s_l_ended) (by decide +kernel)) (fun _ _ _ _ _ => (pg_name (i := 6) sc_l_ended.nd rfl (Or.inl rfl))) (fun _ _ _ _ _ => pts_nil) (fun _ _ _ _ _ => (pe_ix (ixL K) (pe_ix (ixL K) (pv 1) pe_int (fun _ _ => rfl)) (pv 6) (fun _ _ => rfl)))) (pg_sub (pv 3) pe_int set_list))
     (pss_cons (ps_if (PW.pt (pw_and (pt_val (pv 4)) (pw_and1 (pt_cmpR op_eq (pv 5) pe_int (nomark _)))))
      (pss_one (ps_expr (pe_bm PySem.F.plainAttrs_list PySem.F.slot_list_append PySem.F.type_list_append mt_append (pe_ix (ixL K) (pv 3) pe_int (fun _ _ => rfl)) (pa_cons (pe_ix (ixL K) (pe_ix (ixL K) (pv 3) pe_int (fun _ _ => rfl)) (pe_un un_neg pe_int) (fun _ _ => rfl)) pa_nil))))
      pss_nil)
     (pss_cons (ps_if (PW.pt (pw_and (pt_val (pv 4)) (pw_and1 (pt_cmpR op_eq (pv 5) pe_int (nomark _)))))
      (pss_one (ps_expr (pe_bm PySem.F.plainAttrs_list PySem.F.slot_list_append PySem.F.type_list_append mt_append (pe_ix (ixL K) (pv 3) pe_int (fun _ _ => rfl)) (pa_cons (pe_op (catA K) (pe_tup (pa_cons pe_int pa_nil)) (pe_slice (slA K) (pe_ix (ixL K) (pe_ix (ixL K) (pv 3) pe_int (fun _ _ => rfl)) pe_int (fun _ _ => rfl)) (po_some pe_int) po_none)) pa_nil))))
      pss_nil)
     (pss_cons (ps_if (PW.pt (pw_and (pt_val (pv 4)) (pw_and1 (pt_cmpR op_eq (pv 5) pe_int (nomark _)))))
      (pss_one (ps_asg (pe_lst pa_nil) (pg_sub (pv 3) pe_int set_list)))
      pss_nil)
     (pss_cons (ps_if (PW.pt (pw_and (pt_val (pv 4)) (pw_and1 (pt_cmpR op_eq (pv 5) pe_int (nomark _)))))
      (pss_one (ps_expr (pe_bm PySem.F.plainAttrs_list PySem.F.slot_list_append PySem.F.type_list_append mt_append (pe_ix (ixL K) (pv 3) pe_int (fun _ _ => rfl)) (pa_cons (pe_tup (pa_cons pe_int (pa_cons (pe_ix (ixL K) (pe_ix (ixL K) (pv 1) pe_int (fun _ _ => rfl)) pe_int (fun _ _ => rfl)) pa_nil))) pa_nil))))
      pss_nil)
     (pss_one (ps_if (PW.pt (pw_and (pt_val (pv 4)) (pw_and1 (pt_cmpR op_eq (pv 5) pe_int (nomark _)))))
      (pss_one (ps_expr (pe_bm PySem.F.plainAttrs_list PySem.F.slot_list_append PySem.F.type_list_append mt_append (pe_ix (ixL K) (pv 3) pe_int (fun _ _ => rfl)) (pa_cons (pe_op (catA K) (pe_ix (ixL K) (pe_ix (ixL K) (pv 3) pe_int (fun _ _ => rfl)) pe_int (fun _ _ => rfl)) (pe_tup (pa_cons pe_int pa_nil))) pa_nil))))
      pss_nil))))))))))), ?_⟩
  walk_at "rd"
  refine loopL (refs ps) (fun j σ G' M' => ∃ z3 z4 z5 z6 Sg', σ = [some (.ref L), some (.ref wa), some (.ref R), z3, z4, z5, z6] ∧ Same G G' ∧ Cvt x.rows.length R M0 Sg' G' M' 100 la LL (ps.drop j ++ rest) ∧ ∀ p ∈ ps.drop j, EmpN Sg' M' p.1 j) S (by walk_at "gv")
    ⟨_, _, _, _, Sg, rfl, Same.refl _, cv, fun p hp => empN_of (hemp p hp)⟩ (fun j σ G' M' hI H' S' => ?_) (fun j x3 σ G' M' H' hx3 hI S' => ?_) (fun σ G' M' H' hI S' => ?_)
  · obtain ⟨_, _, _, _, _, rfl, _, c', _⟩ := hI
    exact S'.m _ _ (c'.mL _ hL).1
  · obtain ⟨z3, z4, z5, z6, Sg', rfl, E', c', hE⟩ := hI
    have hj : j < ps.length := by
      have := (List.getElem?_eq_some_iff.mp hx3).1
      rw [refs, List.length_map] at this
      exact this
    have hdr : ps.drop j = ps[j] :: ps.drop (j + 1) := List.drop_eq_getElem_cons hj
    have hpj : ps[j]? = some ps[j] := List.getElem?_eq_getElem hj
    obtain ⟨ps0, eps0⟩ : ∃ z, z = ps[j] := ⟨_, rfl⟩
    rw [← eps0] at hpj hdr
    obtain ⟨p, s⟩ := ps0
    have hx4 := hx3
    rw [refs, List.getElem?_map, hpj] at hx4
    cases hx4
    rw [hdr, List.cons_append] at c'
    rw [hdr] at hE
    have hpk := c'.pk _ (List.mem_cons_self ..)
    dsimp only at hpk
    obtain ⟨_, hMp, xv, b0, rfl, ⟨cb, rfl, hcb⟩, hcd, hsb0⟩ := c'.st p _ hpk
    obtain ⟨x', b', cs0, hMp', hMb, _, hcs0⟩ := hE _ (List.mem_cons_self ..)
    dsimp only at hMp'
    rw [hMp] at hMp'
    cases hMp'
    have hp0 : atI [V.ref cb, V.ref b0] 0 = some (.ref cb) := rfl
    have hp1 : atI [V.ref cb, V.ref b0] 1 = some (.ref b0) := rfl
    have hwa' := E' _ _ hwa
    have hpR : p ≠ R := fun z => by have := c'.hR; rw [← z, hpk] at this; cases this
    walk_at "rd"
    apply rd_notV
    walk_at "rd"
    refine ⟨G', M', (s, x), S', ⟨_, _, rfl, ⟨cb, rfl, hcb⟩, ⟨ra, rx, rfl, E' _ _ hra, ral.up up_TI E'⟩, hcd⟩, fun v G3 H3 E3 S3 ⟨b, ev, _⟩ => ?_⟩
    subst ev
    refine ⟨b, rfl, ?_⟩
    walk_at "rd"
    refine ⟨G3, M', R, 6, S3, c'.re, ⟨_, _, rfl, rfl, rfl, by decide⟩, fun v G4 M4 H4 E4 O4 R4 S4 ⟨c, ec, c0, c6⟩ => ?_⟩
    subst ec
    have c4 := cvt_draw (cvt_same c' E3) E4 O4 R4
    have E34 := E3.trans E4
    have g4 : M4 p = some (.lst [.ref cb, .ref b0]) := by rw [O4 _ hpR]; exact hMp
    have hbR : b0 ≠ R := fun z => by have := c'.hR; rw [← z, hsb0] at this; cases this
    have gb4 : M4 b0 = some (.lst cs0) := by rw [O4 _ hbR]; exact hMb
    have hcb4 := E34 _ _ hcb
    have E04 := E'.trans E34
    have hemp4 : ∀ q ∈ ps.drop (j + 1), EmpN Sg' M4 q.1 j := fun q hq => empN_draw (hE q (List.mem_cons_of_mem _ hq)) O4 (fun z => by
      have h1 := c'.pk q (List.mem_cons_of_mem _ (List.mem_append_left _ hq))
      have := c'.hR
      rw [← z, h1] at this
      cases this) c'.hR
    have hnec : ∀ q ∈ ps.drop (j + 1), q.1 ≠ p := fun q hq z => by
      have := c'.nd
      rw [List.map_cons, List.nodup_cons] at this
      exact this.1 (z ▸ List.mem_map.mpr ⟨q, List.mem_append_left _ hq, rfl⟩)
    obtain ⟨hd0, hd16, hdr4⟩ := decM_in ok hcd
    have hwa4 := E34 _ _ hwa'
    walk_at "rd"
    apply rd_cL
    walk_at "rd"
    refine compLM up_TI ((decM x s).map some) S4 gv_cE hcb4 (by simp [decM]) (by simp [sizeLine_eq]; omega) (by intro _; rfl) yes_all (fun i1 x1 y1 G5 M5 H5 hx1 ho E5 S5 Q' kk => ?_) (fun l racc G5 M5 H5 E5 e5 n5 S5 f5 al5 => ?_)
    · have ey := some_at ho
      obtain ⟨cd, ecd, rfl⟩ := int_at hx1
      unfold decM at ey
      rw [List.getElem?_map, ecd] at ey
      cases ey
      obtain ⟨d0, d1⟩ := hcd.2.2 cd (List.mem_of_getElem? ecd)
      obtain ⟨r, v, er, hat, q, eq, hq⟩ := at_rel ral d0 (by rw [ral.len]; exact d1)
      subst eq
      have e3 : x.rows.getD cd.toNat [] = r := by rw [List.getD_eq_getElem?_getD, er]; rfl
      have hwa5 := E5 _ _ hwa4
      have hra5 := E5 _ _ (E04 _ _ hra)
      walk_at "rd"
      exact kk _ G5 H5 (Same.refl _) S5 ⟨q, rfl, by dsimp only; rw [e3]; exact E5 _ _ (E04 _ _ hq)⟩
    rw [filt_some] at al5
    have hrl := al5.len
    have hrok : ∀ y ∈ racc, ∃ r : Row, rTI r y G5 ∧ r.length ≤ 100 := fun y hy => by
      obtain ⟨iy, hiy⟩ := List.getElem?_of_mem hy
      obtain ⟨r, er, hr⟩ := al5.at hiy
      exact ⟨r, hr, by have := (hdr4 r (List.mem_of_getElem? er)).2; omega⟩
    obtain ⟨c5, x5⟩ := cvt_new (k := .rows) (cvt_same c4 E5) n5 e5 f5 ⟨by omega, hrok⟩
    have hpl := cst_ne n5 g4
    have hbl := cst_ne n5 gb4
    have g5 : M5 p = some (.lst [.ref cb, .ref b0]) := by rw [e5 _ hpl]; exact g4
    have hemp5 : ∀ q ∈ ps.drop (j + 1), EmpN (upS Sg' l .rows) M5 q.1 j := fun q hq => empN_new (hemp4 q hq) n5 e5 x5
    walk_at "rd"
    refine rd_setM S5 g5 (show ixN _ 0 = some 0 from rfl) (fun M6 H6 e6 S6 f6 => ?_)
    obtain ⟨cv6, x6⟩ := cvt_conv c5 e6 f6 ⟨l, b0, rfl, upS_same, x5 _ _ hsb0 (by intro s z; cases z)⟩
    have upl := x6 _ _ (upS_same (Sg := Sg') (p := l) (k := .rows)) (by intro s z; cases z)
    have upb := x6 _ _ (x5 _ _ hsb0 (by intro s z; cases z)) (by intro s z; cases z)
    have upp : upS (upS Sg' l .rows) p .pair p = some .pair := upS_same
    have f6' : M6 p = some (.lst [.ref l, .ref b0]) := f6
    have g6 : M6 l = some (.lst racc) := by rw [e6 _ hpl.symm]; exact f5
    have hb0p : b0 ≠ p := fun z => by rw [z, hpk] at hsb0; cases hsb0
    have gb6 : M6 b0 = some (.lst cs0) := by rw [e6 _ hb0p, e5 _ hbl]; exact gb4
    have hemp6 : ∀ q ∈ ps.drop (j + 1), EmpN (upS (upS Sg' l .rows) p .pair) M6 q.1 (j + 1) := fun q hq => empN_keep (hemp5 q hq) (Nat.le_succ _) (hnec q hq) e6 x6 (.inl (by rw [upS_ne hpl, hpk]; intro z; cases z))
    have hcp6 : ∀ q ∈ ps.drop (j + 1), upS (upS Sg' l .rows) p .pair q.1 = some (.cpair q.2) := fun q hq => cv6.pk q (List.mem_append_left _ hq)
    generalize upS (upS Sg' l .rows) p .pair = Sg6 at *
    have hq0 : atI [V.ref l, V.ref b0] 0 = some (.ref l) := rfl
    have hq1 : atI [V.ref l, V.ref b0] 1 = some (.ref b0) := rfl
    have hr0 : 0 < racc.length := by
      rw [hrl]
      exact List.length_pos_iff.mpr hd0
    obtain ⟨rinit, rlast, erl⟩ : ∃ i v, racc = i ++ [v] := ⟨racc.dropLast, racc.getLast (List.ne_nil_of_length_pos hr0), (List.dropLast_concat_getLast _).symm⟩
    have hra0 : racc[0]? = some racc[0] := List.getElem?_eq_getElem hr0
    have hat00 : atI racc 0 = some racc[0] := at_of (j := 0) rfl hra0
    obtain ⟨r0, er0, tb, etb, htb⟩ := al5.at hra0
    have hr04 := (hdr4 r0 (List.mem_of_getElem? er0)).2
    rw [etb] at hat00
    have hjl : j ≤ 70000 := by omega
    have E05 := E04.trans E5
    cases b with
    | true =>
      iterate 5
        walk_at "rd"
        refine iteF ?_
        refine iteF ?_
      walk_at "rd"
      exact ⟨_, _, S6, _, _, _, _, _, rfl, E05, cv6, hemp6⟩
    | false =>
      have hc : c = 0 ∨ c = 1 ∨ c = 2 ∨ c = 3 ∨ c = 4 ∨ c = 5 := by omega
      rcases hc with rfl | rfl | rfl | rfl | rfl | rfl
      · iterate 5
          walk_at "rd"
          refine iteT ?_
          walk_at "rd"
          refine (if_neg (by decide)).mpr ?_
        walk_at "rd"
        exact ⟨_, _, S6, _, _, _, _, _, rfl, E05, cv6, hemp6⟩
      · walk_at "rd"
        refine iteT ?_
        walk_at "rd"
        refine (if_pos (by decide)).mpr ?_
        walk_at "rd"
        refine ⟨ty_lst (S6.m _ _ g6), ?_⟩
        walk_at "rd"
        refine ⟨1, rfl, ?_⟩
        have hlast : atI racc (-1) = some rlast := by rw [erl]; exact atI_last _ _
        walk_at "rd"
        refine rd_appM S6 g6 (by rw [sizeLine_eq]; omega) (fun M7 H7 e7 S7 f7 => ?_)
        have E7 : Same G5 G5 := Same.refl _
        have cF := cvt_chg (cvt_same cv6 E7) upl e7 f7 ⟨by rw [List.length_append]; simp; omega, fun y hy => by
          rcases List.mem_append.mp hy with hy | hy
          · obtain ⟨r, h1, h2⟩ := hrok y hy
            exact ⟨r, up_TI _ _ _ _ E7 h1, h2⟩
          · rw [List.mem_singleton.mp hy]
            exact hrok _ (by rw [erl]; exact List.mem_append_right _ (List.mem_singleton_self _))⟩
        have hF : ∀ q ∈ ps.drop (j + 1), EmpN Sg6 M7 q.1 (j + 1) := fun q hq => empN_keep (hemp6 q hq) (Nat.le_refl _) (fun z => by have := hcp6 q hq; rw [z, upl] at this; cases this) e7 (Ext.refl _) (.inl (by rw [upl]; intro z; cases z))
        iterate 4
          walk_at "rd"
          refine iteT ?_
          walk_at "rd"
          refine (if_neg (by decide)).mpr ?_
        walk_at "rd"
        exact ⟨_, _, S7, _, _, _, _, _, rfl, E05.trans E7, cF, hF⟩
      · iterate 1
          walk_at "rd"
          refine iteT ?_
          walk_at "rd"
          refine (if_neg (by decide)).mpr ?_
        walk_at "rd"
        refine iteT ?_
        walk_at "rd"
        refine (if_pos (by decide)).mpr ?_
        walk_at "rd"
        refine ⟨ty_lst (S6.m _ _ g6), ?_⟩
        walk_at "rd"
        refine al_tup S6 (by walk_at "gv") (by simp [sizeLine_eq]) (fun t1 G7 H7 E7a S7a f7a => ?_)
        have htb7 := E7a _ _ htb
        walk_at "rd"
        refine al_slA S7a htb7 (fun t2 G8 H8 E8 S8 f8 => ?_)
        rw [cut1] at f8
        refine al_catT S8 (E8 _ _ f7a) f8 (by rw [List.length_drop, List.length_map, sizeLine_eq]; simp; omega) (fun t3 G9 H9 E9 S9 f9 => ?_)
        walk_at "rd"
        refine rd_appM S9 g6 (by rw [sizeLine_eq]; omega) (fun M7 H7 e7 S7 f7 => ?_)
        have E7 := (E7a.trans E8).trans E9
        have cF := cvt_chg (cvt_same cv6 E7) upl e7 f7 ⟨by rw [List.length_append]; simp; omega, fun y hy => by
          rcases List.mem_append.mp hy with hy | hy
          · obtain ⟨r, h1, h2⟩ := hrok y hy
            exact ⟨r, up_TI _ _ _ _ E7 h1, h2⟩
          · rw [List.mem_singleton.mp hy]
            exact ⟨2 :: r0.drop 1, ⟨t3, rfl, by rw [f9, List.map_cons, List.map_drop]; rfl⟩, by rw [List.length_cons, List.length_drop]; omega⟩⟩
        have hF : ∀ q ∈ ps.drop (j + 1), EmpN Sg6 M7 q.1 (j + 1) := fun q hq => empN_keep (hemp6 q hq) (Nat.le_refl _) (fun z => by have := hcp6 q hq; rw [z, upl] at this; cases this) e7 (Ext.refl _) (.inl (by rw [upl]; intro z; cases z))
        iterate 3
          walk_at "rd"
          refine iteT ?_
          walk_at "rd"
          refine (if_neg (by decide)).mpr ?_
        walk_at "rd"
        exact ⟨_, _, S7, _, _, _, _, _, rfl, E05.trans E7, cF, hF⟩
      · iterate 2
          walk_at "rd"
          refine iteT ?_
          walk_at "rd"
          refine (if_neg (by decide)).mpr ?_
        walk_at "rd"
        refine iteT ?_
        walk_at "rd"
        refine (if_pos (by decide)).mpr ?_
        walk_at "rd"
        refine al_lstM S6 (by walk_at "gv") (by simp) (fun l2 M7 H7 e7 S7 f7 n7 _ => ?_)
        obtain ⟨c7, x7⟩ := cvt_new (k := .rows) cv6 n7 e7 f7 ⟨Nat.zero_le _, fun y hy => by cases hy⟩
        have hpl2 := cst_ne n7 f6'
        have g7 : M7 p = some (.lst [.ref l, .ref b0]) := by rw [e7 _ hpl2]; exact f6'
        walk_at "rd"
        refine rd_setM S7 g7 (show ixN _ 0 = some 0 from rfl) (fun M8 H8 e8 S8 f8 => ?_)
        have cF := cvt_chg c7 (x7 _ _ upp (by intro s z; cases z)) e8 f8 ⟨l2, b0, rfl, upS_same, x7 _ _ upb (by intro s z; cases z)⟩
        have hF : ∀ q ∈ ps.drop (j + 1), EmpN (upS Sg6 l2 .rows) M8 q.1 (j + 1) := fun q hq => empN_keep (empN_new (hemp6 q hq) n7 e7 x7) (Nat.le_refl _) (hnec q hq) e8 (Ext.refl _) (.inl (by rw [upS_ne hpl2, upp]; intro z; cases z))
        have E7 : Same G5 G5 := Same.refl _
        have S7 := S8
        iterate 2
          walk_at "rd"
          refine iteT ?_
          walk_at "rd"
          refine (if_neg (by decide)).mpr ?_
        walk_at "rd"
        exact ⟨_, _, S7, _, _, _, _, _, rfl, E05.trans E7, cF, hF⟩
      · iterate 3
          walk_at "rd"
          refine iteT ?_
          walk_at "rd"
          refine (if_neg (by decide)).mpr ?_
        walk_at "rd"
        refine iteT ?_
        walk_at "rd"
        refine (if_pos (by decide)).mpr ?_
        walk_at "rd"
        refine ⟨ty_lst (S6.m _ _ gb6), ?_⟩
        have hn0 : 0 < nx.length := by
          rw [nal.len, ok.nl]
          exact List.length_pos_iff.mpr ok.n0
        have hnx0 : nx[0]? = some nx[0] := List.getElem?_eq_getElem hn0
        have hatn : atI nx 0 = some nx[0] := at_of (j := 0) rfl hnx0
        obtain ⟨nm0, enm, nb, enb, hnb⟩ := nal.at hnx0
        have hnm4 := (ok.names nm0 (List.mem_of_getElem? enm)).2
        rw [enb] at hatn
        have hwa5 := E5 _ _ hwa4
        have hna5 := E05 _ _ hna
        walk_at "rd"
        refine al_tup S6 (by walk_at "gv") (by simp [sizeLine_eq]) (fun t1 G7 H7 E7 S7a f7a => ?_)
        walk_at "rd"
        refine rd_appM S7a gb6 (by rw [sizeLine_eq]; omega) (fun M7 H7 e7 S7 f7 => ?_)
        obtain ⟨_, hq1', hq2, hq3⟩ := (cvt_same cv6 E7).st b0 _ upb
        rw [gb6] at hq1'
        cases hq1'
        have cF := cvt_chg (cvt_same cv6 E7) upb e7 f7 ⟨by rw [List.length_append]; simp; omega, fun y hy => by
          rcases List.mem_append.mp hy with hy | hy
          · exact hq3 y hy
          · rw [List.mem_singleton.mp hy]
            exact ⟨(0, nm0), ⟨t1, _, _, rfl, f7a, rfl, nb, rfl, (E05.trans E7) _ _ hnb⟩, by dsimp only; omega⟩⟩
        have hF : ∀ q ∈ ps.drop (j + 1), EmpN Sg6 M7 q.1 (j + 1) := fun q hq => empN_keep (hemp6 q hq) (Nat.le_refl _) (fun z => by have := hcp6 q hq; rw [z, upb] at this; cases this) e7 (Ext.refl _) (.inr ⟨_, f7, by rw [List.length_append]; simp; omega⟩)
        iterate 1
          walk_at "rd"
          refine iteT ?_
          walk_at "rd"
          refine (if_neg (by decide)).mpr ?_
        walk_at "rd"
        exact ⟨_, _, S7, _, _, _, _, _, rfl, E05.trans E7, cF, hF⟩
      · iterate 4
          walk_at "rd"
          refine iteT ?_
          walk_at "rd"
          refine (if_neg (by decide)).mpr ?_
        walk_at "rd"
        refine iteT ?_
        walk_at "rd"
        refine (if_pos (by decide)).mpr ?_
        walk_at "rd"
        refine ⟨ty_lst (S6.m _ _ g6), ?_⟩
        walk_at "rd"
        refine al_tup S6 (by walk_at "gv") (by simp [sizeLine_eq]) (fun t1 G7 H7 E7a S7a f7a => ?_)
        refine al_catT S7a (E7a _ _ htb) f7a (by rw [List.length_map, sizeLine_eq]; simp; omega) (fun t3 G9 H9 E9 S9 f9 => ?_)
        walk_at "rd"
        refine rd_appM S9 g6 (by rw [sizeLine_eq]; omega) (fun M7 H7 e7 S7 f7 => ?_)
        have E7 := E7a.trans E9
        have cF := cvt_chg (cvt_same cv6 E7) upl e7 f7 ⟨by rw [List.length_append]; simp; omega, fun y hy => by
          rcases List.mem_append.mp hy with hy | hy
          · obtain ⟨r, h1, h2⟩ := hrok y hy
            exact ⟨r, up_TI _ _ _ _ E7 h1, h2⟩
          · rw [List.mem_singleton.mp hy]
            exact ⟨r0 ++ [1], ⟨t3, rfl, by rw [f9, List.map_append]; rfl⟩, by rw [List.length_append]; simp; omega⟩⟩
        have hF : ∀ q ∈ ps.drop (j + 1), EmpN Sg6 M7 q.1 (j + 1) := fun q hq => empN_keep (hemp6 q hq) (Nat.le_refl _) (fun z => by have := hcp6 q hq; rw [z, upl] at this; cases this) e7 (Ext.refl _) (.inl (by rw [upl]; intro z; cases z))
        walk_at "rd"
        exact ⟨_, _, S7, _, _, _, _, _, rfl, E05.trans E7, cF, hF⟩
  · obtain ⟨z3, z4, z5, z6, Sg', rfl, E', c', _⟩ := hI
    have e1 : ps.drop (refs ps).length = [] := by rw [refs, List.length_map, List.drop_length]
    rw [e1] at c'
    walk_at "rd"
    exact k G' M' H' Sg' E' c' S'
end
end N
/-! LW: the law: untrue -/
namespace N
open PySem L2
noncomputable def endSig (Sg : Sig) (la : Addr) (Ls : List Addr) : Sig := fun b => if b = la then some .levels else if b ∈ Ls then some .level else Sg b
theorem cvt_end {n B : Nat} {R la : Addr} {M0 : Hp} {Sg : Sig} {G0 G M : Hp} {LL : List Lvl} (h : Cvt n R M0 Sg G M B la LL []) (E : Same G0 G) (hl : LL.length ≤ B) (h7 : ∀ l ∈ LL, l.2.length ≤ 70000) :
    Stp n R (fun _ => none) G0 M0 (endSig Sg la (LL.map (·.1))) G M B ∧ endSig Sg la (LL.map (·.1)) la = some .levels := by
  have hla : endSig Sg la (LL.map (·.1)) la = some .levels := if_pos rfl
  have hLs : ∀ l ∈ LL, endSig Sg la (LL.map (·.1)) l.1 = some .level := fun l hl => by
    obtain ⟨_, _, _, d, _⟩ := h.mL l hl
    unfold endSig
    rw [if_neg d, if_pos (List.mem_map.mpr ⟨l, hl, rfl⟩)]
  have hot : ∀ b k, Sg b = some k → endSig Sg la (LL.map (·.1)) b = some k := fun b k hk => by
    have h1 : b ≠ la := fun z => by have := h.nl; rw [← z, hk] at this; cases this
    have h2 : ¬ b ∈ LL.map (·.1) := fun z => by
      obtain ⟨l, hl, e⟩ := List.mem_map.mp z
      have := (h.mL l hl).2.1
      rw [e, hk] at this
      cases this
    unfold endSig
    rw [if_neg h1, if_neg h2]
    exact hk
  have hx : Ext Sg (endSig Sg la (LL.map (·.1))) := fun b k hk _ => hot b k hk
  have hno : ∀ b, b ≠ la → (¬ ∃ l ∈ LL, l.1 = b) → endSig Sg la (LL.map (·.1)) b = Sg b := fun b h1 h2 => by
    unfold endSig
    rw [if_neg h1, if_neg fun z => h2 (by obtain ⟨l, hl, e⟩ := List.mem_map.mp z; exact ⟨l, hl, e⟩)]
  refine ⟨⟨E, (fun a k hk _ => by cases hk), fun b o _ h2 h3 => ?_, fun a k hk => ?_, h.re, ?_⟩, hla⟩
  · obtain ⟨q1, q2⟩ := h.fr b o h2 h3
    refine ⟨q1, ?_⟩
    rw [hno b (fun z => by have := h.fl; rw [← z, h3] at this; cases this) fun ⟨l, hl, e⟩ => by
      have := (h.mL l hl).2.2.2.2
      rw [e, h3] at this
      cases this]
    exact q2
  · by_cases h1 : a = la
    · subst h1
      rw [hla] at hk
      cases hk
      refine ⟨_, h.ml, by rw [List.length_map]; exact hl, fun x hx => ?_⟩
      obtain ⟨l, hl, rfl⟩ := List.mem_map.mp hx
      exact ⟨l.1, rfl, hLs l hl⟩
    · by_cases h2 : ∃ l ∈ LL, l.1 = a
      · obtain ⟨l, hl, rfl⟩ := h2
        rw [hLs l hl] at hk
        cases hk
        refine ⟨_, (h.mL l hl).1, by rw [refs, List.length_map]; have := h7 l hl; omega, fun x hx => ?_⟩
        obtain ⟨p, hp, rfl⟩ := List.mem_map.mp hx
        refine ⟨p.1, rfl, hot _ _ ?_⟩
        rcases h.dn l hl p hp with h3 | h3
        · cases h3
        · exact h3
      · rw [hno a h1 h2] at hk
        obtain ⟨xs, q1, q2⟩ := h.st a k hk
        exact ⟨xs, q1, okL_up hx (Same.refl _) (Nat.le_refl _) q2⟩
  · rw [hno R (Ne.symm h.lR) fun ⟨l, hl, e⟩ => (h.mL l hl).2.2.1 e]
    exact h.hR
section
variable {P : Program} {w : World} {K : PySem.W.Frag} {mg : Str → Option Value} {base : Heap}
def sp_l_untrue : Sp := fun vs H Q _ => ∃ (G M : Hp) (R : Addr) (x : Wd) (cnt : Nat) (v1 : V), Hs G M H ∧ Rest M R ∧ vs = [v1, .int (cnt : Int), .ref R] ∧ rWd x v1 G ∧ WdOk x ∧ cnt ≤ 20 ∧ (x.sm ≠ [] → 3 ≤ x.rows.length) ∧
  ∀ G' M' H' Sg' la, Same G G' → Stp x.rows.length R (fun _ => none) G M Sg' G' M' 100 → Sg' la = some .levels → Hs G' M' H' → Q (.ref la) H'
theorem ok_l_untrue (T : Bt mg) (F : Dfn K mg "_law_untrue" s_l_untrue) (h_l_hopeful : Has P w K mg base 5 "_law_hopeful" ["_law_world_here", "_law_count", "_law_rest"] sp_l_hopeful) (h_l_ended : Has P w K mg base 2 "_law_ended" ["_law_level", "_law_world_here", "_law_rest"] sp_l_ended) :
    Has P w K mg base 6 "_law_untrue" ["_law_world_here", "_law_count", "_law_rest"] sp_l_untrue := by
  refine F.ok sc_l_untrue (fun _ _ _ _ _ _ us hl => match us, hl with | [_, _, _], _ => rfl) (fun vs H Q E h => by obtain ⟨_, _, _, _, _, _, _, _, rfl, _⟩ := h; rfl) (fun f cdv A outer s H vs Q E hr h => ?_)
  obtain ⟨G, M, R, x, cnt, v1, S, hR, rfl, hw, ok, hcnt, h3, k⟩ := h
  obtain ⟨wa, w1, w2, w3, w4, rfl, hwa, ⟨ra, rx, rfl, hra, ral⟩, hw2, hw3, hw4⟩ := id hw
  have hat0 : atI [V.ref ra, w2, w3, w4] 0 = some (.ref ra) := rfl
  refine ⟨_, (pss_cons (ps_set (i := 3) sc_l_untrue.nd rfl (Or.inl rfl) (pe_fn h_l_hopeful hr (pa_cons (pv 0) (pa_cons (pv 1) (pa_cons (pv 2) pa_nil)))))
    (pss_cons (ps_for PassesOwn.never rfl (pi_range1 (by rfl) T.range (pa_cons (pe_callB (lenS K) (by rfl) T.len PySem.boot_len (pa_cons (pv 3) pa_nil)) pa_nil)) (pg_name (i := 4) sc_l_untrue.nd rfl (Or.inl rfl))
     (pss_one (ps_if (pt_cmpR op_lt (pe_op op_add (pv 4) pe_int) (pe_callB (lenS K) (by rfl) T.len PySem.boot_len (pa_cons (pv 3) pa_nil)) (nomark _))
      (pss_one (ps_for PassesOwn.never rfl (piL K (pe_ix (ixL K) (pv 3) (pv 4) (fun _ _ => rfl))) (pg_name (i := 5) sc_l_untrue.nd rfl (Or.inl rfl))
       (pss_one (ps_asg (pe_lc (own := [("_law_code_here", 6)]) rfl sc_l_untrue.nd (piL K (pe_ix (ixL K) (pv 5) pe_int (fun _ _ => rfl))) (blkOk_by (N := ["_law_world_here", "_law_count", "_law_rest", "_law_levels", "_law_at", "_law_pair", "_law_code_here"]) (sc := defScope s_l_untrue) (by decide +kernel)) (fun _ _ _ _ _ => (pg_name (i := 6) sc_l_untrue.nd rfl (Or.inl rfl))) (fun _ _ _ _ _ => pts_nil) (fun _ _ _ _ _ => (pe_ix (ixL K) (pe_ix (ixL K) (pv 0) pe_int (fun _ _ => rfl)) (pv 6) (fun _ _ => rfl)))) (pg_sub (pv 5) pe_int set_list)))))
      (pss_one (ps_expr (pe_fn h_l_ended hr (pa_cons (pe_ix (ixL K) (pv 3) (pv 4) (fun _ _ => rfl)) (pa_cons (pv 0) (pa_cons (pv 2) pa_nil)))))))))
    (pss_one (ps_ret (pv 3))))), ?_⟩
  walk_at "rd"
  refine ⟨G, M, R, x, cnt, _, S, hR, rfl, hw, ok, hcnt, h3, fun G1 M1 H1 Sg la LL E1 cst hLL h7 hemp S1 => ?_⟩
  have cv := cvt_of cst
  have hml := cv.ml
  walk_at "rd"
  refine loopR (n := cnt) (fun i σ G' M' => ∃ z4 z5 z6 Sg', σ = [some (.ref wa), some (.int cnt), some (.ref R), some (.ref la), z4, z5, z6] ∧ Same G1 G' ∧ Cvt x.rows.length R M Sg' G' M' 100 la LL (pairsOf (LL.drop i)) ∧
      (i < cnt → ∀ l, LL[cnt - 1]? = some l → ∀ p ∈ l.2, Emp Sg' M' p.1)) S1 (by intro R_ q_; walk_at "rd"; rw [List.length_map, hLL]; exact q_) (by omega)
    ⟨_, _, _, Sg, rfl, Same.refl _, cv, fun _ => hemp⟩ (fun i σ G2 M2 H2 hi hI S2 => ?_) (fun σ G2 M2 H2 hI S2 => ?_)
  · obtain ⟨z4, z5, z6, Sg2, rfl, E2, c2, hE2⟩ := hI
    have hiL : i < LL.length := by omega
    have hLi : LL[i]? = some LL[i] := List.getElem?_eq_getElem hiL
    have hdr : LL.drop i = LL[i] :: LL.drop (i + 1) := List.drop_eq_getElem_cons hiL
    obtain ⟨l, el⟩ : ∃ l, l = LL[i] := ⟨_, rfl⟩
    rw [← el] at hLi hdr
    have hlm := List.mem_of_getElem? hLi
    obtain ⟨L, ps⟩ := l
    have hpend : pairsOf (LL.drop i) = ps ++ pairsOf (LL.drop (i + 1)) := by rw [hdr]; rfl
    rw [hpend] at c2
    have hml2 := c2.ml
    have hatL : atI (LL.map fun l => V.ref l.1) (i : Int) = some (.ref L) := at_of (j := i) rfl (by rw [List.getElem?_map, hLi]; rfl)
    have E02 := E1.trans E2
    have hLm2 := (c2.mL _ hlm).1
    walk_at "rd"
    refine rd_ite (fun h0 => ?_) (fun h0 => ?_)
    · rw [List.length_map, hLL] at h0
      have hi1 : i + 1 < cnt := by omega
      walk_at "rd"
      refine loopL (refs ps) (fun j σ G' M' => ∃ z5 z6 Sg', σ = [some (.ref wa), some (.int cnt), some (.ref R), some (.ref la), some (.int i), z5, z6] ∧ Same G2 G' ∧ Cvt x.rows.length R M Sg' G' M' 100 la LL (ps.drop j ++ pairsOf (LL.drop (i + 1))) ∧
          ∀ l, LL[cnt - 1]? = some l → ∀ p ∈ l.2, Emp Sg' M' p.1) S2 (by walk_at "gv")
        ⟨_, _, Sg2, rfl, Same.refl _, c2, hE2 hi⟩ (fun j σ G' M' hI H' S' => ?_) (fun j x3 σ G' M' H' hx3 hI S' => ?_) (fun σ G' M' H' hI S' => ?_)
      · obtain ⟨_, _, _, rfl, _, c', _⟩ := hI
        exact S'.m _ _ (c'.mL _ hlm).1
      · obtain ⟨z5, z6, Sg', rfl, E', c', hE⟩ := hI
        have hj : j < ps.length := by
          have := (List.getElem?_eq_some_iff.mp hx3).1
          rw [refs, List.length_map] at this
          exact this
        have hdp : ps.drop j = ps[j] :: ps.drop (j + 1) := List.drop_eq_getElem_cons hj
        have hpj : ps[j]? = some ps[j] := List.getElem?_eq_getElem hj
        obtain ⟨ps0, eps0⟩ : ∃ z, z = ps[j] := ⟨_, rfl⟩
        rw [← eps0] at hpj hdp
        obtain ⟨p, s⟩ := ps0
        have hx4 := hx3
        rw [refs, List.getElem?_map, hpj] at hx4
        cases hx4
        rw [hdp, List.cons_append] at c'
        have hpk := c'.pk _ (List.mem_cons_self ..)
        dsimp only at hpk
        obtain ⟨_, hMp, xv, b0, rfl, ⟨cb, rfl, hcb⟩, hcd, hsb0⟩ := c'.st p _ hpk
        have hp0 : atI [V.ref cb, V.ref b0] 0 = some (.ref cb) := rfl
        have E0' := E02.trans E'
        have hwa' := E0' _ _ hwa
        obtain ⟨hd0, hd16, hdr4⟩ := decM_in ok hcd
        have hlast : ∀ l, LL[cnt - 1]? = some l → ∀ q ∈ l.2, q.1 ≠ p := fun l hl q hq z => by
          have h1 : q ∈ pairsOf (LL.drop (i + 1)) := by
            refine List.mem_flatMap.mpr ⟨l, ?_, hq⟩
            refine List.mem_of_getElem? (i := cnt - 1 - (i + 1)) ?_
            rw [List.getElem?_drop, show i + 1 + (cnt - 1 - (i + 1)) = cnt - 1 by omega]
            exact hl
          have := c'.nd
          rw [List.map_cons, List.nodup_cons] at this
          exact this.1 (z ▸ List.mem_map.mpr ⟨q, List.mem_append_right _ h1, rfl⟩)
        walk_at "rd"
        apply rd_cL
        walk_at "rd"
        refine compLM up_TI ((decM x s).map some) S' gv_cE hcb (by simp [decM]) (by simp [sizeLine_eq]; omega) (by intro _; rfl) yes_all (fun i1 x1 y1 G5 M5 H5 hx1 ho E5 S5 Q' kk => ?_) (fun l racc G5 M5 H5 E5 e5 n5 S5 f5 al5 => ?_)
        · have ey := some_at ho
          obtain ⟨cd, ecd, rfl⟩ := int_at hx1
          unfold decM at ey
          rw [List.getElem?_map, ecd] at ey
          cases ey
          obtain ⟨d0, d1⟩ := hcd.2.2 cd (List.mem_of_getElem? ecd)
          obtain ⟨r, v, er, hat, q, eq, hq⟩ := at_rel ral d0 (by rw [ral.len]; exact d1)
          subst eq
          have e3 : x.rows.getD cd.toNat [] = r := by rw [List.getD_eq_getElem?_getD, er]; rfl
          have hwa5 := E5 _ _ hwa'
          have hra5 := E5 _ _ (E0' _ _ hra)
          walk_at "rd"
          exact kk _ G5 H5 (Same.refl _) S5 ⟨q, rfl, by dsimp only; rw [e3]; exact E5 _ _ (E0' _ _ hq)⟩
        rw [filt_some] at al5
        have hrl := al5.len
        have hrok : ∀ y ∈ racc, ∃ r : Row, rTI r y G5 ∧ r.length ≤ 100 := fun y hy => by
          obtain ⟨iy, hiy⟩ := List.getElem?_of_mem hy
          obtain ⟨r, er, hr⟩ := al5.at hiy
          exact ⟨r, hr, by have := (hdr4 r (List.mem_of_getElem? er)).2; omega⟩
        obtain ⟨c5, x5⟩ := cvt_new (k := .rows) (cvt_same c' E5) n5 e5 f5 ⟨by omega, hrok⟩
        have hpl := cst_ne n5 hMp
        have g5 : M5 p = some (.lst [.ref cb, .ref b0]) := by rw [e5 _ hpl]; exact hMp
        walk_at "rd"
        refine rd_setM S5 g5 (show ixN _ 0 = some 0 from rfl) (fun M6 H6 e6 S6 f6 => ?_)
        obtain ⟨cv6, x6⟩ := cvt_conv c5 e6 f6 ⟨l, b0, rfl, upS_same, x5 _ _ hsb0 (by intro s z; cases z)⟩
        refine ⟨_, _, S6, _, _, _, rfl, E'.trans E5, cv6, fun lv hlv q hq => ?_⟩
        obtain ⟨xx, bb, q1, q2, q3⟩ := emp_chg (emp_new (hE lv hlv q hq) n5 e5 x5) (hlast lv hlv q hq) g5 e6
        exact ⟨xx, bb, q1, q2, x6 _ _ q3 (by intro s z; cases z)⟩
      · obtain ⟨z5, z6, Sg', rfl, E', c', hE⟩ := hI
        have e1 : ps.drop (refs ps).length = [] := by rw [refs, List.length_map, List.drop_length]
        rw [e1, List.nil_append] at c'
        exact ⟨_, _, S', _, _, _, Sg', rfl, E2.trans E', c', fun _ => hE⟩
    · rw [List.length_map, hLL] at h0
      have hic : i = cnt - 1 := by omega
      walk_at "rd"
      refine ⟨G2, M2, R, x, _, M, Sg2, la, L, LL, ps, pairsOf (LL.drop (i + 1)), S2, rfl, up_Wd _ _ _ _ E02 hw, ok, c2, hlm, h7 _ hlm, hE2 hi (L, ps) (by rw [← hic]; exact hLi), fun G3 M3 H3 Sg3 E3 c3 S3 => ?_⟩
      exact ⟨_, _, S3, _, _, _, Sg3, rfl, E2.trans E3, c3, fun h => by omega⟩
  · obtain ⟨z4, z5, z6, Sg2, rfl, E2, c2, _⟩ := hI
    have e1 : pairsOf (LL.drop cnt) = [] := by rw [← hLL, List.drop_length]; rfl
    rw [e1] at c2
    obtain ⟨q1, q2⟩ := cvt_end c2 (E1.trans E2) (by omega) h7
    walk_at "rd"
    exact k G2 M2 H2 _ la (E1.trans E2) q1 q2 S2
end
end N
/-! LX: the law: depth, told whole; stretched -/
namespace N
open PySem L2
theorem ld_next {n i : Nat} {cs : List Cp} {c : Cp} (h : cs[i]? = some c) : ldM n (cs.take (i + 1)) = ldStep (ldM n (cs.take i)) c := by
  rw [take_push h]
  unfold ldM
  rw [List.foldl_append]
  rfl
theorem ld_nil {n : Nat} {m : Int} (h : m ∈ ldM n []) : m = 0 := (List.mem_replicate.mp h).2
theorem ld_one {n : Nat} {c : Cp} {m : Int} (hc : CpIn n c) (h2 : ∀ y ∈ ldM n [c], y ≤ m) (h : m ∈ ldM n [c]) : m = 1 := by
  obtain ⟨b1, b2, b3, b4⟩ := hc
  have hg : ∀ k : Nat, (List.replicate n (0 : Int)).getD k 0 = 0 := fun k => by
    rw [List.getD_eq_getElem?_getD, List.getElem?_replicate]
    split <;> rfl
  have e : ldM n [c] = ((List.replicate n (0 : Int)).set c.1.toNat 1).set c.2.toNat 1 := by
    show ldStep (List.replicate n 0) c = _
    unfold ldStep
    dsimp only
    rw [hg, hg]
    rfl
  have h3 : (1 : Int) ∈ ldM n [c] := by
    rw [e]
    refine List.mem_of_getElem? (i := c.2.toNat) ?_
    rw [List.getElem?_set_self (by simp; omega)]
  have h4 := h2 1 h3
  rw [e] at h
  rcases List.mem_or_eq_of_mem_set h with h | h
  · rcases List.mem_or_eq_of_mem_set h with h | h
    · have := (List.mem_replicate.mp h).2
      omega
    · exact h
  · exact h
section
variable {P : Program} {w : World} {K : PySem.W.Frag} {mg : Str → Option Value} {base : Heap}
def sp_l_depthM : Sp := pureSp (fun (x : Nat × List Cp) vs G => ∃ v1 v2, vs = [v1, v2] ∧ v1 = .int (x.1 : Int) ∧ rL rP x.2 v2 G ∧ 1 ≤ x.1 ∧ x.1 ≤ 8 ∧ ∀ c ∈ x.2, CpIn x.1 c) (fun x v _ => ∃ i : Int, v = .int i ∧ i ∈ ldM x.1 x.2 ∧ ∀ y ∈ ldM x.1 x.2, y ≤ i)
theorem ok_l_depthM (T : Bt mg) (F : Dfn K mg "_law_depth" s_l_depth) : Has P w K mg base 1 "_law_depth" ["_law_wires", "_law_comparers_here"] sp_l_depthM := by
  refine F.ok sc_l_depth (fun _ _ _ _ _ _ us hl => match us, hl with | [_, _], _ => rfl) (fun vs H Q E h => by obtain ⟨_, _, _, _, ⟨_, _, rfl, _⟩, _⟩ := h; rfl) (fun f cdv A outer s H vs Q E hr h => ?_)
  obtain ⟨G, M, ⟨n, cs⟩, S, ⟨v1, v2, rfl, rfl, ⟨a, xs, rfl, ha, al⟩, hn, hn8, hcs⟩, k⟩ := h
  dsimp only at hn hn8 hcs k al
  refine ⟨_, (pss_cons (ps_setLc (i := 2) (own := [("_law_wire", 3)]) rfl sc_l_depth.nd rfl rfl (sw_true rfl rfl rfl (by decide +kernel)) (pi_range1 (by rfl) T.range (pa_cons (pv 0) pa_nil)) (blkOk_by (N := ["_law_wires", "_law_comparers_here", "_law_reached", "_law_wire", "_law_pair", "_law_deep"]) (sc := defScope s_l_depth) (by decide +kernel)) (fun _ _ _ _ _ => (pg_name (i := 3) sc_l_depth.nd rfl (Or.inl rfl))) (fun _ _ _ _ _ => pts_nil) (fun _ _ _ _ _ => pe_int))
    (pss_cons (ps_for PassesOwn.never rfl (piL K (pv 1)) (pg_name (i := 4) sc_l_depth.nd rfl (Or.inl rfl))
     (pss_cons (ps_set (i := 5) sc_l_depth.nd rfl (Or.inl rfl) (pe_op op_add pe_int (pe_callB (call_max2 rfl) (by rfl) T.max (by decide +kernel) (pa_cons (pe_ix (ixL K) (pv 2) (pe_ix (ixT K) (pv 4) pe_int (fun _ _ => rfl)) (fun _ _ => rfl)) (pa_cons (pe_ix (ixL K) (pv 2) (pe_ix (ixT K) (pv 4) pe_int (fun _ _ => rfl)) (fun _ _ => rfl)) pa_nil)))))
     (pss_cons (ps_asg (pv 5) (pg_sub (pv 2) (pe_ix (ixT K) (pv 4) pe_int (fun _ _ => rfl)) set_list))
     (pss_one (ps_asg (pv 5) (pg_sub (pv 2) (pe_ix (ixT K) (pv 4) pe_int (fun _ _ => rfl)) set_list))))))
    (pss_one (ps_ret (pe_callB (maxK K (hc := rfl)) (by rfl) T.max (by decide +kernel) (pa_cons (pv 2) pa_nil)))))), ?_⟩
  walk_at "rd"
  refine compRM up_Z ((List.replicate n (0 : Int)).map some) (n := n) S (by walk_at "gv") (by omega) (by simp) (by simp [sizeLine_eq]; omega) (by intro _; rfl) yes_allR (fun i y G1 M2 H2 hi ho E1 S2 Q' kk => ?_) (fun pr acc G2 M2 H2 E2 e2 n2 S2 f2 al2 => ?_)
  · have ey := some_at ho
    rw [List.getElem?_replicate, if_pos hi] at ey
    cases ey
    walk_at "rd"
    exact kk _ G1 H2 (Same.refl _) S2 rfl
  · rw [filt_some] at al2
    have ea := al2.ints
    subst ea
    walk_at "rd"
    refine loopL xs (fun i σ G' M' => ∃ z3 z4 z5, σ = [some (.int n), some (.ref a), some (.ref pr), z3, z4, z5] ∧ G' = G2 ∧ (∀ b, b ≠ pr → M' b = M b) ∧ M' pr = some (.lst ((ldM n (cs.take i)).map V.int))) S2 (by walk_at "gv")
      ⟨_, _, _, rfl, rfl, e2, f2⟩ (fun i σ G' M' hI H' S' => ?_) (fun i x3 σ G' M' H' hx3 hI S' => ?_) (fun σ G' M' H' hI S' => ?_)
    · obtain ⟨_, _, _, rfl, rfl, _⟩ := hI
      exact S'.g _ _ (E2 _ _ ha)
    · obtain ⟨z3, z4, z5, rfl, rfl, e', f'⟩ := hI
      obtain ⟨c, ec, hc⟩ := al.at hx3
      obtain ⟨t, rfl, ht⟩ := rP_ti hc
      obtain ⟨q1, q2, q3, q4⟩ := hcs c (List.mem_of_getElem? ec)
      have ht2 := E2 _ _ ht
      have hl := ldM_len n (cs.take i)
      have en := ld_next (n := n) ec
      have hp0 : atI ([c.1, c.2].map V.int) 0 = some (.int c.1) := rfl
      have hp1 : atI ([c.1, c.2].map V.int) 1 = some (.int c.2) := rfl
      have a1 := lay_at q1 q2 hl
      have a2 := lay_at q3 q4 hl
      walk_at "rd"
      refine ⟨_, _, rfl, ?_⟩
      walk_at "rd"
      refine rd_setM S' f' (lay_set q1 q2 hl) (fun M7 H7 e7 S7 f7 => ?_)
      rw [← List.map_set] at f7
      walk_at "rd"
      refine rd_setM S7 f7 (lay_set q3 q4 (by rw [List.length_set]; exact hl)) (fun M8 H8 e8 S8 f8 => ?_)
      rw [← List.map_set] at f8
      exact ⟨_, _, S8, _, _, _, rfl, rfl, fun b hb => (e8 b hb).trans ((e7 b hb).trans (e' b hb)), by rw [en]; exact f8⟩
    · obtain ⟨z3, z4, z5, rfl, rfl, e', f'⟩ := hI
      rw [al.len, List.take_length] at f'
      walk_at "rd"
      refine ⟨pr, ldM n cs, rfl, SqL.of (S'.m _ _ f'), by rw [ldM_len]; omega, fun m hm hmx => ?_⟩
      obtain ⟨G5, E5, S5, f5⟩ := S'.drop f' e' n2
      exact k _ G5 H' (E2.trans E5) S5 ⟨m, rfl, hm, hmx⟩
end
section
variable {K : PySem.W.Frag} {te : TE} {ta : TA} {vs : List Nat} {σ : L2.St} {H1 G0 M0 : Hp}
/-- a comprehension over a range of any whole number, that draws -/
theorem compDZ {α : Type} {Rl : α → V → Hp → Prop} (up : Up Rl) {Q : VK} {z : Int} {j : Nat} {R : Addr} (S : Hs G0 M0 H1) (hta : GvA ta σ H1 [.int z]) (hz : -1000 ≤ z ∧ z ≤ 1000) (hR : Rest M0 R)
    (hw : ∀ x, wipe ((wipe σ vs).set j (some x)) vs = wipe σ vs)
    (h2 : ∀ (i : Nat) (G M H : Hp), Same G0 G → Rest M R → Hs G M H → ∀ Q' : VK, (∀ v x G2 M2 H2, Same G G2 → Off (· = R) M M2 → Rest M2 R → Hs G2 M2 H2 → Rl x v G2 → Q' v H2) → te ((wipe σ vs).set j (some (.int ((i : Nat) : Int)))) H Q')
    (k : ∀ p acc l G M H, Same G0 G → (∀ b, b ≠ p → b ≠ R → M b = M0 b) → M0 p = none → Rest M R → Hs G M H → M p = some (.lst acc) → All2 Rl G l acc → l.length = z.toNat → Q (.ref p) H) :
    tLc (iRng1 ta) (gName j) tYes te vs σ H1 Q := by
  refine hta _ ⟨z, rfl, by omega, by omega, ?_⟩
  have h : tLc (iRng1 (cA [.int ((z.toNat : Nat) : Int)])) (gName j) tYes te vs σ H1 Q := compD up S gv_cA (by omega) hR hw (fun i G M H _ => h2 i G M H) k
  obtain ⟨j', ej, _, _, h'⟩ := h
  cases ej
  rw [Int.toNat_natCast] at h'
  exact h'
end
end N
/-! LY: the law: stretched -/
namespace N
open PySem L2
section
variable {P : Program} {w : World} {K : PySem.W.Frag} {mg : Str → Option Value} {base : Heap}
def sp_l_stretched : Sp := fun vs H Q _ => ∃ (G M : Hp) (R ca : Addr) (wn : Nat) (cs : List Cp) (xs : List V) (number : Int) (word : Str), Hs G M H ∧ Rest M R ∧ vs = [.int (wn : Int), .ref ca, .int number, .str word, .ref R] ∧ M ca = some (.lst xs) ∧ All2 rP G cs xs ∧ (∀ c ∈ cs, CpIn wn c) ∧
  cs.length ≤ 5 ∧ (2 ≤ wn → cs ≠ []) ∧ 1 ≤ wn ∧ wn ≤ 4 ∧ -1000 ≤ number ∧ number ≤ 100 ∧
  ∀ p acc cs' G' M' H', Same G G' → (∀ b, b ≠ p → b ≠ R → M' b = M b) → M p = none → Rest M' R → Hs G' M' H' → M' p = some (.lst acc) → All2 rP G' cs' acc → cs'.length ≤ 100 → Q (.ref p) H'
theorem ok_l_stretched (T : Bt mg) (F : Dfn K mg "_law_stretched" s_l_stretched) (h_l_comparers : Has P w K mg base 1 "_law_comparers" ["_law_wires"] sp_l_comparers) (h_l_draw : Has P w K mg base 1 "_law_draw" ["_law_rest", "_law_limit"] sp_l_draw)
    (h_l_depth : Has P w K mg base 1 "_law_depth" ["_law_wires", "_law_comparers_here"] sp_l_depthM) : Has P w K mg base 2 "_law_stretched" ["_law_wires", "_law_comparers_here", "_law_number", "_law_word", "_law_rest"] sp_l_stretched := by
  refine F.ok sc_l_stretched (fun _ _ _ _ _ _ us hl => match us, hl with | [_, _, _, _, _], _ => rfl) (fun vs H Q E h => by obtain ⟨_, _, _, _, _, _, _, _, _, _, _, rfl, _⟩ := h; rfl) (fun f cdv A outer s H vs Q E hr h => ?_)
  obtain ⟨G, M, R, ca, wn, cs, xs, number, word, S, hR, rfl, hca, al, hcs, hc5, hcne, hwn1, hwn, hnu1, hnu2, k⟩ := h
  refine ⟨_, (pss_cons (ps_if (pt_cmpR op_eq (pv 0) pe_int (nomark _))
     (pss_one (ps_ret (pe_lc (own := [("_law_k", 5)]) rfl sc_l_stretched.nd (pi_range1 (by rfl) T.range (pa_cons (pv 2) pa_nil)) (blkOk_by (N := ["_law_wires", "_law_comparers_here", "_law_number", "_law_word", "_law_rest", "_law_k", "_law_standard", "_law_found", "_law_pair"]) (sc := defScope s_l_stretched) (by decide +kernel)) (fun _ _ _ _ _ => (pg_name (i := 5) sc_l_stretched.nd rfl (Or.inl rfl))) (fun _ _ _ _ _ => pts_nil) (fun _ _ _ _ _ => (pe_tup (pa_cons pe_int (pa_cons (pe_fn h_l_draw hr (pa_cons (pv 4) (pa_cons pe_int pa_nil))) pa_nil)))))))
     pss_nil)
    (pss_cons (ps_set (i := 6) sc_l_stretched.nd rfl (Or.inl rfl) (pe_fn h_l_comparers hr (pa_cons (pv 0) pa_nil)))
    (pss_cons (ps_set (i := 7) sc_l_stretched.nd rfl (Or.inl rfl) (pe_lst pa_nil))
    (pss_cons (ps_for PassesOwn.never rfl (piL K (pv 1)) (pg_name (i := 8) sc_l_stretched.nd rfl (Or.inl rfl))
     (pss_cons (ps_if (PW.pt (pw_and (pt_cmpR op_eq (pv 3) pe_str (nomark _)) (pw_and1 (pt_cmpR op_lt (pe_callB (lenS K) (by rfl) T.len PySem.boot_len (pa_cons (pv 7) pa_nil)) (pv 2) (nomark _)))))
      (pss_one (ps_expr (pe_bm PySem.F.plainAttrs_list PySem.F.slot_list_append PySem.F.type_list_append mt_append (pv 7) (pa_cons (pv 8) pa_nil))))
      pss_nil)
     (pss_one (ps_if (PW.pt (pw_and (pt_cmpR op_eq (pv 3) pe_str (nomark _)) (pw_and1 (pt_cmpR op_le (pe_fn h_l_depth hr (pa_cons (pv 0) (pa_cons (pe_op op_cat (pv 7) (pe_lst (pa_cons (pv 8) pa_nil))) pa_nil))) (pv 2) (nomark _)))))
      (pss_one (ps_expr (pe_bm PySem.F.plainAttrs_list PySem.F.slot_list_append PySem.F.type_list_append mt_append (pv 7) (pa_cons (pv 8) pa_nil))))
      pss_nil))))
    (pss_cons (ps_for PassesOwn.never rfl (pi_range1 (by rfl) T.range (pa_cons pe_int pa_nil)) (pg_name (i := 5) sc_l_stretched.nd rfl (Or.inl rfl))
     (pss_cons (ps_if (PW.pt (pw_and (pt_cmpR op_eq (pv 3) pe_str (nomark _)) (pw_and1 (pt_cmpR op_lt (pe_callB (lenS K) (by rfl) T.len PySem.boot_len (pa_cons (pv 7) pa_nil)) (pv 2) (nomark _)))))
      (pss_one (ps_expr (pe_bm PySem.F.plainAttrs_list PySem.F.slot_list_append PySem.F.type_list_append mt_append (pv 7) (pa_cons (pe_ix (ixL K) (pv 6) (pe_fn h_l_draw hr (pa_cons (pv 4) (pa_cons (pe_callB (lenS K) (by rfl) T.len PySem.boot_len (pa_cons (pv 6) pa_nil)) pa_nil))) (fun _ _ => rfl)) pa_nil))))
      pss_nil)
     (pss_one (ps_if (PW.pt (pw_and (pt_cmpR op_eq (pv 3) pe_str (nomark _)) (pw_and1 (pt_cmpR op_lt (pe_fn h_l_depth hr (pa_cons (pv 0) (pa_cons (pv 7) pa_nil))) (pv 2) (nomark _)))))
      (pss_one (ps_expr (pe_bm PySem.F.plainAttrs_list PySem.F.slot_list_append PySem.F.type_list_append mt_append (pv 7) (pa_cons (pe_ix (ixL K) (pv 7) (pe_un un_neg pe_int) (fun _ _ => rfl)) pa_nil))))
      pss_nil))))
    (pss_one (ps_ret (pv 7)))))))), ?_⟩
  walk_at "rd"
  refine rd_ite (fun h0 => ?_) (fun h0 => ?_)
  · walk_at "rd"
    refine compDZ up_P (z := number) (R := R) S (by walk_at "gv") ⟨hnu1, by omega⟩ hR (by intro _; rfl) (fun i G5 M5 H5 E5 R5 S5 Q' kk => ?_) (fun p acc l G5 M5 H5 E5 e5 n5 R5 S5 f5 al5 hl5 => ?_)
    · walk_at "rd"
      apply rd_tup
      walk_at "rd"
      refine ⟨G5, M5, R, 2, S5, R5, ⟨_, _, rfl, rfl, rfl, by decide⟩, fun v G6 M6 H6 E6 O6 R6 S6 ⟨i2, ei2, _, _⟩ => ?_⟩
      subst ei2
      walk_at "rd"
      refine ⟨by simp [sizeLine_eq], fun t ht => ?_⟩
      obtain ⟨G7, E7, S7, f7⟩ := S6.addG (o := .tup [.int 0, .int i2]) ht
      exact kk _ (0, i2) G7 M6 _ (E6.trans E7) O6 R6 S7 ⟨t, _, _, rfl, f7, rfl, rfl⟩
    · exact k p acc l G5 M5 H5 E5 e5 n5 R5 S5 f5 al5 (by rw [hl5]; omega)
  have hw2 : 2 ≤ wn := by omega
  have hcne := hcne hw2
  walk_at "rd"
  refine ⟨G, M, wn, S, ⟨_, rfl, rfl, by omega⟩, fun v G1 H1 E1 S1 ⟨sb, sx, ev, hsb, sal⟩ => ?_⟩
  cases ev
  have hsc0 : 0 < sx.length := by
    rw [sal.len]
    have : ∀ m : Nat, 2 ≤ m → m ≤ 4 → 0 < (scM m).length := by
      intro m h1 h2
      have hc : m = 2 ∨ m = 3 ∨ m = 4 := by omega
      rcases hc with rfl | rfl | rfl <;> decide
    exact this wn hw2 hwn
  walk_at "rd"
  refine al_lstM S1 (by walk_at "gv") (by simp) (fun pf M2 H2 e2 S2 f2 n2 _ => ?_)
  have hpR : pf ≠ R := rest_ne (o := .lst []) hR n2
  have hpc : ca ≠ pf := cst_ne n2 hca
  have hca2 : M2 ca = some (.lst xs) := by rw [e2 _ hpc]; exact hca
  walk_at "rd"
  refine loopL xs (fun i σ G' M' => ∃ z5 z8 fs acc, σ = [some (.int wn), some (.ref ca), some (.int number), some (.str word), some (.ref R), z5, some (.ref sb), some (.ref pf), z8] ∧ Same G1 G' ∧ (∀ b, b ≠ pf → M' b = M b) ∧ M' pf = some (.lst acc) ∧ All2 rP G' fs acc ∧ (∀ c ∈ fs, CpIn wn c) ∧ fs.length ≤ 2 * i ∧
      (word = "layers" → 1 ≤ number → 1 ≤ i → fs ≠ [])) S2 (by walk_at "gv")
    ⟨_, _, [], [], rfl, Same.refl _, e2, f2, All2.nil, (fun c hc => by cases hc), Nat.zero_le _, fun _ _ h => by omega⟩ (fun i σ G' M' hI H' S' => ?_) (fun i x3 σ G' M' H' hx3 hI S' => ?_) (fun σ G' M' H' hI S' => ?_)
  · obtain ⟨_, _, _, _, rfl, _, e', _⟩ := hI
    exact S'.m _ _ (by rw [e' _ hpc]; exact hca)
  · obtain ⟨z5, z8, fs, acc, rfl, E', e', f', al', hfs, hfl, hfe⟩ := hI
    obtain ⟨c, ec, hcp⟩ := al.at hx3
    have hcin := hcs c (List.mem_of_getElem? ec)
    have hi : i < cs.length := (List.getElem?_eq_some_iff.mp ec).1
    have hal := al'.len
    have E0' := E1.trans E'
    walk_at "rd"
    refine rd_ite (fun h1 => ?ca) (fun h1 => ?cb)
    case' ca =>
      walk_at "rd"
      refine rd_ite (fun h2 => ?cc) (fun h2 => ?cd)
    case' cc =>
      walk_at "rd"
      refine ⟨ty_lst (S'.m _ _ f'), ?_⟩
      walk_at "rd"
      refine rd_appM S' f' (by rw [sizeLine_eq]; omega) (fun Mn Hn en Sn fn => ?_)
      obtain ⟨fsn, efs⟩ : ∃ z, z = fs ++ [c] := ⟨_, rfl⟩
      obtain ⟨accn, eac⟩ : ∃ z, z = acc ++ [x3] := ⟨_, rfl⟩
      rw [← eac] at fn
      have aln : All2 rP G' fsn accn := by rw [efs, eac]; exact al'.snoc (up_P _ _ _ _ E0' hcp)
      have hfn : ∀ d ∈ fsn, CpIn wn d := fun d hd => by
        rw [efs] at hd
        rcases List.mem_append.mp hd with hd | hd
        · exact hfs d hd
        · rw [List.mem_singleton.mp hd]; exact hcin
      have hln : fsn.length ≤ 2 * i + 1 := by rw [efs, List.length_append]; simp; omega
      have eMn : ∀ b, b ≠ pf → Mn b = M b := fun b hb => (en b hb).trans (e' b hb)
    case' cb =>
      refine iteF ?_
      obtain ⟨Mn, eMM⟩ : ∃ z, z = M' := ⟨_, rfl⟩
      obtain ⟨fsn, efs⟩ : ∃ z, z = fs := ⟨_, rfl⟩
      obtain ⟨accn, eac⟩ : ∃ z, z = acc := ⟨_, rfl⟩
      have Sn : Hs G' Mn H' := by rw [eMM]; exact S'
      have fn : Mn pf = some (.lst accn) := by rw [eMM, eac]; exact f'
      have aln : All2 rP G' fsn accn := by rw [efs, eac]; exact al'
      have hfn : ∀ d ∈ fsn, CpIn wn d := by rw [efs]; exact hfs
      have hln : fsn.length ≤ 2 * i + 1 := by rw [efs]; omega
      have eMn : ∀ b, b ≠ pf → Mn b = M b := by rw [eMM]; exact e'
    case' cd =>
      obtain ⟨Mn, eMM⟩ : ∃ z, z = M' := ⟨_, rfl⟩
      obtain ⟨fsn, efs⟩ : ∃ z, z = fs := ⟨_, rfl⟩
      obtain ⟨accn, eac⟩ : ∃ z, z = acc := ⟨_, rfl⟩
      have Sn : Hs G' Mn H' := by rw [eMM]; exact S'
      have fn : Mn pf = some (.lst accn) := by rw [eMM, eac]; exact f'
      have aln : All2 rP G' fsn accn := by rw [efs, eac]; exact al'
      have hfn : ∀ d ∈ fsn, CpIn wn d := by rw [efs]; exact hfs
      have hln : fsn.length ≤ 2 * i + 1 := by rw [efs]; omega
      have eMn : ∀ b, b ≠ pf → Mn b = M b := by rw [eMM]; exact e'
    all_goals
      have hal2 := aln.len
      walk_at "rd"
      refine rd_ite (fun h3 => ?_) (fun h3 => ?_)
      · walk_at "rd"
        refine al_lst Sn (by walk_at "gv") (by simp [sizeLine_eq]) (fun q G3 H3 E3 S3 f3 => ?_)
        refine al_cat S3 (S3.m _ _ fn) (S3.g _ _ f3) (by rw [sizeLine_eq]; simp; omega) (fun l G4 H4 E4 S4 f4 => ?_)
        walk_at "rd"
        have E34 := E3.trans E4
        refine ⟨G4, Mn, (wn, fsn ++ [c]), S4, ⟨_, _, rfl, rfl, ⟨l, _, rfl, f4, (aln.up up_P E34).snoc (up_P _ _ _ _ (E0'.trans E34) hcp)⟩, hwn1, by dsimp only; omega, fun d hd => by
          rcases List.mem_append.mp hd with hd | hd
          · exact hfn d hd
          · rw [List.mem_singleton.mp hd]; exact hcin⟩, fun v G5 H5 E5 S5 ⟨m, em, hm, hmx⟩ => ?_⟩
        subst em
        walk_at "rd"
        refine rd_ite (fun h4 => ?_) (fun h4 => ?_)
        · walk_at "rd"
          refine ⟨ty_lst (S5.m _ _ fn), ?_⟩
          walk_at "rd"
          refine rd_appM S5 fn (by rw [sizeLine_eq]; omega) (fun M6 H6 e6 S6 f6 => ?_)
          exact ⟨_, _, S6, _, _, fsn ++ [c], accn ++ [x3], rfl, E'.trans (E34.trans E5), fun b hb => (e6 b hb).trans (eMn b hb), f6, (aln.up up_P (E34.trans E5)).snoc (up_P _ _ _ _ (E0'.trans (E34.trans E5)) hcp), (fun d hd => by
            rcases List.mem_append.mp hd with hd | hd
            · exact hfn d hd
            · rw [List.mem_singleton.mp hd]; exact hcin), by rw [List.length_append]; simp; omega, fun _ _ _ => by simp⟩
        · walk_at "rd"
          refine ⟨_, _, S5, _, _, fsn, accn, rfl, E'.trans (E34.trans E5), eMn, fn, aln.up up_P (E34.trans E5), hfn, by omega, fun _ hn _ z => ?_⟩
          rw [z] at hm hmx
          have := ld_one hcin hmx hm
          omega
      · refine iteF ?_
        walk_at "rd"
        exact ⟨_, _, Sn, _, _, fsn, accn, rfl, E', eMn, fn, aln, hfn, by omega, fun hw => absurd hw h3⟩
  · obtain ⟨z5, z8, fs, acc, rfl, E', e', f', al', hfs, hfl, hfe⟩ := hI
    have hxl := al.len
    have hcl : 0 < cs.length := List.length_pos_iff.mpr hcne
    walk_at "rd"
    refine loopR (n := 8) (fun i σ G2 M3 => ∃ z5 z8 fs acc, σ = [some (.int wn), some (.ref ca), some (.int number), some (.str word), some (.ref R), z5, some (.ref sb), some (.ref pf), z8] ∧ Same G1 G2 ∧ (∀ b, b ≠ pf → b ≠ R → M3 b = M b) ∧ Rest M3 R ∧ M3 pf = some (.lst acc) ∧ All2 rP G2 fs acc ∧ (∀ c ∈ fs, CpIn wn c) ∧ fs.length ≤ 10 + 2 * i ∧
        (word = "layers" → 1 ≤ number → fs ≠ [])) S' (by walk_at "gv") (by decide)
      ⟨_, _, fs, acc, rfl, E', fun b h1 _ => e' b h1, rest_set hR e' hpR, f', al', hfs, by omega, fun h1 h2 => hfe h1 h2 (by omega)⟩ (fun i σ G' M' H' hi hI S' => ?_) (fun σ G' M' H' hI S' => ?_)
    · obtain ⟨z5, z8, fs, acc, rfl, E', e', hR', f', al', hfs, hfl, hfe⟩ := hI
      have hal := al'.len
      have hsb' := E' _ _ hsb
      walk_at "rd"
      refine rd_ite (fun h1 => ?ea) (fun h1 => ?eb)
      case' ea =>
        walk_at "rd"
        refine rd_ite (fun h2 => ?ec2) (fun h2 => ?ed2)
      case' ec2 =>
        walk_at "rd"
        refine ⟨ty_lst (S'.m _ _ f'), ?_⟩
        walk_at "rd"
        refine ⟨G', M', R, sx.length, S', hR', ⟨_, _, rfl, rfl, rfl, by omega⟩, fun v Gn M5 H5 En O5 R5 S5 ⟨d, ed, d0, d1⟩ => ?_⟩
        subst ed
        obtain ⟨c, cv, ecc, eat, hcv⟩ := at_rel sal d0 d1
        have hcin := scM_in (List.mem_of_getElem? ecc)
        have f5 : M5 pf = some (.lst acc) := by rw [O5 _ hpR]; exact f'
        have hsb5 := En _ _ hsb'
        walk_at "rd"
        refine rd_appM S5 f5 (by rw [sizeLine_eq]; omega) (fun Mn Hn en Sn fn => ?_)
        obtain ⟨fsn, efs⟩ : ∃ z, z = fs ++ [c] := ⟨_, rfl⟩
        obtain ⟨accn, eac⟩ : ∃ z, z = acc ++ [cv] := ⟨_, rfl⟩
        rw [← eac] at fn
        have aln : All2 rP Gn fsn accn := by rw [efs, eac]; exact (al'.up up_P En).snoc (up_P _ _ _ _ (E'.trans En) hcv)
        have hfn : ∀ d ∈ fsn, CpIn wn d := fun d hd => by
          rw [efs] at hd
          rcases List.mem_append.mp hd with hd | hd
          · exact hfs d hd
          · rw [List.mem_singleton.mp hd]; exact hcin
        have hln : fsn.length ≤ 10 + 2 * i + 1 := by rw [efs, List.length_append]; simp; omega
        have eMn : ∀ b, b ≠ pf → b ≠ R → Mn b = M b := fun b h1 h2 => (en b h1).trans ((O5 b h2).trans (e' b h1 h2))
        have Rn : Rest Mn R := rest_set R5 en hpR
        have hfen : word = "layers" → 1 ≤ number → fsn ≠ [] := fun _ _ => by rw [efs]; simp
      case' eb =>
        refine iteF ?_
        obtain ⟨Gn, eGn⟩ : ∃ z, z = G' := ⟨_, rfl⟩
        obtain ⟨Mn, eMM⟩ : ∃ z, z = M' := ⟨_, rfl⟩
        obtain ⟨fsn, efs⟩ : ∃ z, z = fs := ⟨_, rfl⟩
        obtain ⟨accn, eac⟩ : ∃ z, z = acc := ⟨_, rfl⟩
        have Sn : Hs Gn Mn H' := by rw [eMM, eGn]; exact S'
        have fn : Mn pf = some (.lst accn) := by rw [eMM, eac]; exact f'
        have aln : All2 rP Gn fsn accn := by rw [efs, eac, eGn]; exact al'
        have hfn : ∀ d ∈ fsn, CpIn wn d := by rw [efs]; exact hfs
        have hln : fsn.length ≤ 10 + 2 * i + 1 := by rw [efs]; omega
        have eMn : ∀ b, b ≠ pf → b ≠ R → Mn b = M b := by rw [eMM]; exact e'
        have Rn : Rest Mn R := by rw [eMM]; exact hR'
        have En : Same G' Gn := by rw [eGn]; exact Same.refl _
        have hfen : word = "layers" → 1 ≤ number → fsn ≠ [] := by rw [efs]; exact hfe
      case' ed2 =>
        obtain ⟨Gn, eGn⟩ : ∃ z, z = G' := ⟨_, rfl⟩
        obtain ⟨Mn, eMM⟩ : ∃ z, z = M' := ⟨_, rfl⟩
        obtain ⟨fsn, efs⟩ : ∃ z, z = fs := ⟨_, rfl⟩
        obtain ⟨accn, eac⟩ : ∃ z, z = acc := ⟨_, rfl⟩
        have Sn : Hs Gn Mn H' := by rw [eMM, eGn]; exact S'
        have fn : Mn pf = some (.lst accn) := by rw [eMM, eac]; exact f'
        have aln : All2 rP Gn fsn accn := by rw [efs, eac, eGn]; exact al'
        have hfn : ∀ d ∈ fsn, CpIn wn d := by rw [efs]; exact hfs
        have hln : fsn.length ≤ 10 + 2 * i + 1 := by rw [efs]; omega
        have eMn : ∀ b, b ≠ pf → b ≠ R → Mn b = M b := by rw [eMM]; exact e'
        have Rn : Rest Mn R := by rw [eMM]; exact hR'
        have En : Same G' Gn := by rw [eGn]; exact Same.refl _
        have hfen : word = "layers" → 1 ≤ number → fsn ≠ [] := by rw [efs]; exact hfe
      all_goals
        have hal2 := aln.len
        walk_at "rd"
        refine rd_ite (fun h3 => ?_) (fun h3 => ?_)
        · walk_at "rd"
          obtain ⟨Gl, El, Sl, fl⟩ := Sn.close fn
          refine ⟨Gl, del Mn pf, (wn, fsn), Sl, ⟨_, _, rfl, rfl, ⟨pf, accn, rfl, fl, aln.up up_P El⟩, hwn1, by dsimp only; omega, hfn⟩, fun v G5 H5 E5 S5 ⟨m, em, hm, hmx⟩ => ?_⟩
          subst em
          obtain ⟨G6, E6, S6, _⟩ := Sn.thaw fn El fl E5 S5
          walk_at "rd"
          refine rd_ite (fun h4 => ?_) (fun h4 => ?_)
          · have hne : fsn ≠ [] := fun z => by
              rw [z] at hm
              have h0 := ld_nil hm
              exact hfen h3 (by omega) z
            have hacc0 : 0 < accn.length := by
              rw [hal2]
              exact List.length_pos_iff.mpr hne
            obtain ⟨ainit, alast, ea⟩ : ∃ i v, accn = i ++ [v] := ⟨accn.dropLast, accn.getLast (List.ne_nil_of_length_pos hacc0), (List.dropLast_concat_getLast _).symm⟩
            have hlast : atI accn (-1) = some alast := by rw [ea]; exact atI_last _ _
            obtain ⟨ix, hix⟩ := List.getElem?_of_mem (show alast ∈ accn by rw [ea]; exact List.mem_append_right _ (List.mem_singleton_self _))
            obtain ⟨cl, ecl, hcl2⟩ := aln.at hix
            walk_at "rd"
            refine ⟨ty_lst (S6.m _ _ fn), ?_⟩
            walk_at "rd"
            refine ⟨1, rfl, ?_⟩
            walk_at "rd"
            refine rd_appM S6 fn (by rw [sizeLine_eq]; omega) (fun M7 H7 e7 S7 f7 => ?_)
            exact ⟨_, _, S7, _, _, fsn ++ [cl], accn ++ [alast], rfl, (E'.trans En).trans E6, fun b h1 h2 => (e7 b h1).trans (eMn b h1 h2), rest_set Rn e7 hpR, f7, (aln.up up_P E6).snoc (up_P _ _ _ _ E6 hcl2), (fun d hd => by
              rcases List.mem_append.mp hd with hd | hd
              · exact hfn d hd
              · rw [List.mem_singleton.mp hd]; exact hfn _ (List.mem_of_getElem? ecl)), by rw [List.length_append]; simp; omega, fun _ _ => by simp⟩
          · walk_at "rd"
            exact ⟨_, _, S6, _, _, fsn, accn, rfl, (E'.trans En).trans E6, eMn, Rn, fn, aln.up up_P E6, hfn, by omega, hfen⟩
        · refine iteF ?_
          walk_at "rd"
          exact ⟨_, _, Sn, _, _, fsn, accn, rfl, E'.trans En, eMn, Rn, fn, aln, hfn, by omega, hfen⟩
    · obtain ⟨z5, z8, fs, acc, rfl, E', e', hR', f', al', hfs, hfl, hfe⟩ := hI
      walk_at "rd"
      exact k pf acc fs G' M' H' (E1.trans E') e' n2 hR' S' f' al' (by omega)
end
end N
/-! LZ: the law: shrunk -/
namespace N
open PySem L2
theorem count_two {c : Int} : ∀ l : List Int, 1 < l.count c → ∃ i j : Nat, i < j ∧ l[i]? = some c ∧ l[j]? = some c
  | [], h => by simp at h
  | a :: t, h => by
    by_cases ha : a = c
    · subst ha
      rw [List.count_cons_self] at h
      have hm : a ∈ t := List.count_pos_iff.mp (by omega)
      obtain ⟨j, hj⟩ := List.getElem?_of_mem hm
      exact ⟨0, j + 1, by omega, rfl, by simpa using hj⟩
    · rw [List.count_cons_of_ne ha] at h
      obtain ⟨i, j, h1, h2, h3⟩ := count_two t h
      exact ⟨i + 1, j + 1, by omega, by simpa using h2, by simpa using h3⟩
def sumM (x : Wd) (c : Int) : Int := (x.rows.getD c.toNat []).sum
def ShAt (x : Wd) (s : Row) (i j : Nat) : Prop := ∃ a b, s[i]? = some a ∧ s[j]? = some b ∧ a < b ∧ sumM x a = sumM x b
theorem shr_of {x : Wd} {s : Row} (h : unsM x s) (nd : s.Nodup) : ∃ i j, ShAt x s i j := by
  obtain ⟨c, _, hc⟩ := h
  obtain ⟨i, j, hij, h1, h2⟩ := count_two _ hc
  unfold sumsM at h1 h2
  rw [List.getElem?_map] at h1 h2
  cases e1 : s[i]? with
  | none => rw [e1] at h1; cases h1
  | some a =>
    cases e2 : s[j]? with
    | none => rw [e2] at h2; cases h2
    | some b =>
      rw [e1] at h1
      rw [e2] at h2
      have q1 : sumM x a = c := Option.some.inj h1
      have q2 : sumM x b = c := Option.some.inj h2
      have hne : a ≠ b := fun z => by
        subst z
        have := (List.getElem?_inj (List.getElem?_eq_some_iff.mp e1).1 nd).mp (e1.trans e2.symm)
        omega
      rcases Int.lt_or_lt_of_ne hne with h | h
      · exact ⟨i, j, a, b, e1, e2, h, by rw [q1, q2]⟩
      · exact ⟨j, i, b, a, e2, e1, h, by rw [q1, q2]⟩
section
variable {P : Program} {w : World} {K : PySem.W.Frag} {mg : Str → Option Value} {base : Heap}
def sp_l_shrunk : Sp := drawSp (fun (x : Row × Wd) R vs G => ∃ v1 v2 v3, vs = [v1, v2, v3] ∧ rLI x.1 v1 G ∧ rL rTI x.2.rows v2 G ∧ v3 = .ref R ∧ CdOk x.2.rows.length x.1 ∧ x.1.Nodup ∧ unsM x.2 x.1) (fun x v G => ∃ s, rLI s v G ∧ CdOk x.2.rows.length s)
theorem ok_l_shrunk (T : Bt mg) (F : Dfn K mg "_law_shrunk" s_l_shrunk) (h_l_draw : Has P w K mg base 1 "_law_draw" ["_law_rest", "_law_limit"] sp_l_draw) : Has P w K mg base 2 "_law_shrunk" ["_law_state", "_law_rows_here", "_law_rest"] sp_l_shrunk := by
  refine F.ok sc_l_shrunk (fun _ _ _ _ _ _ us hl => match us, hl with | [_, _, _], _ => rfl) (fun vs H Q E h => by obtain ⟨_, _, _, _, _, _, ⟨_, _, _, rfl, _⟩, _⟩ := h; rfl) (fun f cdv A outer s H vs Q E hr h => ?_)
  obtain ⟨G, M, R, ⟨st, x⟩, S, hR, ⟨v1, v2, v3, rfl, ⟨a, rfl, ha⟩, ⟨ra, rx, rfl, hra, ral⟩, rfl, hcd, hnd, hun⟩, k⟩ := h
  dsimp only at ha ral hcd hnd hun k
  have hs16 := hcd.2.1
  refine ⟨_, (pss_cons (ps_set (i := 3) sc_l_shrunk.nd rfl (Or.inl rfl) (pe_lst pa_nil))
    (pss_cons (ps_for PassesOwn.never rfl (piL K (pv 0)) (pg_name (i := 4) sc_l_shrunk.nd rfl (Or.inl rfl))
     (pss_one (ps_for PassesOwn.never rfl (piL K (pv 0)) (pg_name (i := 5) sc_l_shrunk.nd rfl (Or.inl rfl))
      (pss_one (ps_if (PW.pt (pw_and (pt_cmpR op_lt (pv 4) (pv 5) (nomark _)) (pw_and1 (pt_cmpR op_eq (pe_callB (sumTK K (hc := rfl)) (by rfl) T.sum (by decide +kernel) (pa_cons (pe_ix (ixL K) (pv 1) (pv 4) (fun _ _ => rfl)) pa_nil)) (pe_callB (sumTK K (hc := rfl)) (by rfl) T.sum (by decide +kernel) (pa_cons (pe_ix (ixL K) (pv 1) (pv 5) (fun _ _ => rfl)) pa_nil)) (nomark _)))))
       (pss_one (ps_expr (pe_bm PySem.F.plainAttrs_list PySem.F.slot_list_append PySem.F.type_list_append mt_append (pv 3) (pa_cons (pe_lst (pa_cons (pv 4) (pa_cons (pv 5) pa_nil))) pa_nil))))
       pss_nil)))))
    (pss_one (ps_ret (pe_ix (ixL K) (pv 3) (pe_fn h_l_draw hr (pa_cons (pv 2) (pa_cons (pe_callB (lenS K) (by rfl) T.len PySem.boot_len (pa_cons (pv 3) pa_nil)) pa_nil))) (fun _ _ => rfl)))))), ?_⟩
  walk_at "rd"
  refine al_lstM S (by walk_at "gv") (by simp) (fun pp M1 H1 e1 S1 f1 n1 _ => ?_)
  have hpR : pp ≠ R := rest_ne (o := .lst []) hR n1
  have row : ∀ c ∈ st, ∃ (r : Row) (q : Addr), atI rx c = some (.ref q) ∧ G q = some (.tup (r.map V.int)) ∧ r.sum = sumM x c := fun c hc => by
    obtain ⟨c0, c1⟩ := hcd.2.2 c hc
    obtain ⟨r, v, er, hat, q, eq, hq⟩ := at_rel ral c0 (by rw [ral.len]; exact c1)
    subst eq
    exact ⟨r, q, hat, hq, by unfold sumM; rw [List.getD_eq_getElem?_getD, er]; rfl⟩
  walk_at "rd"
  refine loopL (st.map V.int) (fun i σ G' M' => ∃ z4 z5 ps acc, σ = [some (.ref a), some (.ref ra), some (.ref R), some (.ref pp), z4, z5] ∧ Same G G' ∧ (∀ b, b ≠ pp → M' b = M b) ∧ M' pp = some (.lst acc) ∧ All2 rLI G' ps acc ∧ ps.length ≤ 16 * i ∧ (∀ p ∈ ps, CdOk x.rows.length p) ∧
      ∀ i' j', i' < i → ShAt x st i' j' → ps ≠ []) S1 (by walk_at "gv")
    ⟨_, _, [], [], rfl, Same.refl _, e1, f1, All2.nil, Nat.zero_le _, (fun p hp => by cases hp), fun i' j' h => absurd h (Nat.not_lt_zero _)⟩ (fun i σ G' M' hI H' S' => ?_) (fun i x3 σ G' M' H' hx3 hI S' => ?_) (fun σ G' M' H' hI S' => ?_)
  · obtain ⟨_, _, _, _, rfl, E', _⟩ := hI
    exact S'.g _ _ (E' _ _ ha)
  · obtain ⟨z4, z5, ps, acc, rfl, E', e', f', al', hl', hok, hsh⟩ := hI
    obtain ⟨c, ec, rfl⟩ := int_at hx3
    have hcm := List.mem_of_getElem? ec
    obtain ⟨r, q, hat, hq, hsum⟩ := row c hcm
    have hi : i < st.length := (List.getElem?_eq_some_iff.mp ec).1
    walk_at "rd"
    refine loopL (st.map V.int) (fun j σ G2 M2 => ∃ z5 ps acc, σ = [some (.ref a), some (.ref ra), some (.ref R), some (.ref pp), some (.int c), z5] ∧ Same G' G2 ∧ (∀ b, b ≠ pp → M2 b = M b) ∧ M2 pp = some (.lst acc) ∧ All2 rLI G2 ps acc ∧ ps.length ≤ 16 * i + j ∧ (∀ p ∈ ps, CdOk x.rows.length p) ∧
        ∀ i' j', (i' < i ∨ i' = i ∧ j' < j) → ShAt x st i' j' → ps ≠ []) S' (by walk_at "gv")
      ⟨_, ps, acc, rfl, Same.refl _, e', f', al', by omega, hok, fun i' j' h => hsh i' j' (by omega)⟩ (fun j σ G2 M2 hI H2 S2 => ?_) (fun j x4 σ G2 M2 H2 hx4 hI S2 => ?_) (fun σ G2 M2 H2 hI S2 => ?_)
    · obtain ⟨_, _, _, rfl, E2, _⟩ := hI
      exact S2.g _ _ (E2 _ _ (E' _ _ ha))
    · obtain ⟨z5, ps, acc, rfl, E2, e2, f2, al2, hl2, hok, hsh⟩ := hI
      obtain ⟨d, ed, rfl⟩ := int_at hx4
      have hdm := List.mem_of_getElem? ed
      obtain ⟨r2, q2, hat2, hq2, hsum2⟩ := row d hdm
      have hj : j < st.length := (List.getElem?_eq_some_iff.mp ed).1
      have hal2 := al2.len
      have E02 := E'.trans E2
      have hq' := E02 _ _ hq
      have hq2' := E02 _ _ hq2
      have hra' := E02 _ _ hra
      have no : ¬ (c < d ∧ sumM x c = sumM x d) → ∀ i' j', (i' < i ∨ i' = i ∧ j' < j + 1) → ShAt x st i' j' → ps ≠ [] := fun h i' j' hij hh => by
        by_cases hc : i' < i ∨ i' = i ∧ j' < j
        · exact hsh i' j' hc hh
        · have h1 : i' = i := by omega
          have h2 : j' = j := by omega
          subst h1
          subst h2
          obtain ⟨a1, b1, q1, q2, q3, q4⟩ := hh
          rw [ec] at q1
          cases q1
          rw [ed] at q2
          cases q2
          exact absurd ⟨q3, q4⟩ h
      walk_at "rd"
      refine rd_ite (fun h0 => ?_) (fun h0 => ?_)
      · walk_at "rd"
        refine rd_sumT (S2.g _ _ hq') ?_
        walk_at "rd"
        refine rd_sumT (S2.g _ _ hq2') ?_
        walk_at "rd"
        refine rd_ite (fun h1 => ?_) (fun h1 => ?_)
        · walk_at "rd"
          refine ⟨ty_lst (S2.m _ _ f2), ?_⟩
          walk_at "rd"
          refine al_lst S2 (by walk_at "gv") (by simp [sizeLine_eq]) (fun l G3 H3 E3 S3 f3 => ?_)
          walk_at "rd"
          refine rd_appM S3 f2 (by rw [sizeLine_eq]; omega) (fun M4 H4 e4 S4 f4 => ?_)
          refine ⟨_, _, S4, _, ps ++ [[c, d]], acc ++ [.ref l], rfl, E2.trans E3, fun b hb => (e4 b hb).trans (e2 b hb), f4, (al2.up up_LI E3).snoc ⟨l, rfl, f3⟩, by rw [List.length_append]; simp; omega, fun p hp => ?_, fun _ _ _ _ => by simp⟩
          rcases List.mem_append.mp hp with hp | hp
          · exact hok p hp
          · rw [List.mem_singleton.mp hp]
            refine ⟨by simp, by simp, fun z hz => ?_⟩
            rcases List.mem_cons.mp hz with rfl | hz
            · exact hcd.2.2 _ hcm
            · rw [List.mem_singleton.mp hz]
              exact hcd.2.2 _ hdm
        · walk_at "rd"
          exact ⟨_, _, S2, _, ps, acc, rfl, E2, e2, f2, al2, by omega, hok, no fun h => h1 (by rw [hsum, hsum2]; exact h.2)⟩
      · refine iteF ?_
        walk_at "rd"
        exact ⟨_, _, S2, _, ps, acc, rfl, E2, e2, f2, al2, by omega, hok, no fun h => h0 h.1⟩
    · obtain ⟨z5, ps, acc, rfl, E2, e2, f2, al2, hl2, hok, hsh⟩ := hI
      rw [List.length_map] at hl2 hsh
      refine ⟨_, _, S2, _, _, ps, acc, rfl, E'.trans E2, e2, f2, al2, by omega, hok, fun i' j' hi' hh => ?_⟩
      by_cases hc : i' < i
      · exact hsh i' j' (.inl hc) hh
      · have h1 : i' = i := by omega
        subst h1
        obtain ⟨a1, b1, q1, q2, q3, q4⟩ := id hh
        exact hsh i' j' (.inr ⟨rfl, (List.getElem?_eq_some_iff.mp q2).1⟩) hh
  · obtain ⟨z4, z5, ps, acc, rfl, E', e', f', al', hl', hok, hsh⟩ := hI
    rw [List.length_map] at hsh
    obtain ⟨i0, j0, h0⟩ := shr_of hun hnd
    have hne : ps ≠ [] := by
      obtain ⟨a1, b1, q1, _⟩ := id h0
      exact hsh i0 j0 (List.getElem?_eq_some_iff.mp q1).1 h0
    have hp0 := List.length_pos_iff.mpr hne
    have hal := al'.len
    obtain ⟨G2, E2, S2, f2⟩ := S'.drop f' e' n1
    walk_at "rd"
    refine ⟨G2, M, R, acc.length, S2, hR, ⟨_, _, rfl, rfl, rfl, by omega⟩, fun v G3 M3 H3 E3 O3 R3 S3 ⟨d, ed, d0, d1⟩ => ?_⟩
    subst ed
    obtain ⟨p, pv, ep, eat, hp⟩ := at_rel al' d0 d1
    have f3 := E3 _ _ f2
    walk_at "rd"
    exact k _ G3 M3 H3 ((E'.trans E2).trans E3) O3 R3 S3 ⟨p, up_LI _ _ _ _ (E2.trans E3) hp, hok p (List.mem_of_getElem? ep)⟩
end
end N
/-! PA: the law: fill -/
namespace N
open PySem L2
section
variable {P : Program} {w : World} {K : PySem.W.Frag} {mg : Str → Option Value} {base : Heap}
def CovOk (x : Wd) (ss : List Row) (s : Row) : Prop := ∀ t ∈ x.sm, ∃ k ∈ ss, ∃ r ∈ x.nm, ∀ c ∈ tabM r k, c ∈ tabM t s
def sp_l_fill : Sp := fun vs H Q _ => ∃ (G M : Hp) (R : Addr) (x : Wd) (v2 v3 : V) (M0 : Hp) (Sg : Sig) (la L : Addr) (LL : List Lvl) (ps : List (Addr × Row)) (ss : List Row), Hs G M H ∧ vs = [.ref L, v2, v3, .ref R] ∧ rWd x v3 G ∧ WdOk x ∧ rL rLI ss v2 G ∧ StsOk x ss ∧
  Cst x.rows.length R M0 Sg G M 100 la LL [] ∧ (L, ps) ∈ LL ∧ ps.length ≤ 70000 ∧ (∀ p ∈ ps, Emp Sg M p.1) ∧ (∀ p ∈ ps, CovOk x ss p.2) ∧ ∀ G' M' H' Sg', Same G G' → Cst x.rows.length R M0 Sg' G' M' 100 la LL [] → Hs G' M' H' → Q .non H'
theorem ok_l_fill (T : Bt mg) (F : Dfn K mg "_law_fill" s_l_fill) (h_l_images : Has P w K mg base 2 "_law_images" ["_law_state", "_law_world_here"] sp_l_images) (h_l_wanted : Has P w K mg base 1 "_law_wanted" ["_law_states", "_law_world_here"] sp_l_wanted)
    (h_l_hits : Has P w K mg base 2 "_law_hits" ["_law_images_here", "_law_led"] sp_l_hits) (h_l_draw : Has P w K mg base 1 "_law_draw" ["_law_rest", "_law_limit"] sp_l_draw) : Has P w K mg base 3 "_law_fill" ["_law_level", "_law_states", "_law_world_here", "_law_rest"] sp_l_fill := by
  refine F.ok sc_l_fill (fun _ _ _ _ _ _ us hl => match us, hl with | [_, _, _, _], _ => rfl) (fun vs H Q E h => by obtain ⟨_, _, _, _, _, _, _, _, _, _, _, _, _, _, rfl, _⟩ := h; rfl) (fun f cdv A outer s H vs Q E hr h => ?_)
  obtain ⟨G, M, R, x, v2, v3, M0, Sg, la, L, LL, ps, ss, S, rfl, hw, ok, hss, ⟨hsne, hssz, hscd⟩, cst, hlm, hps7, hE0, hcov, k⟩ := h
  obtain ⟨wa, w1, w2, w3, w4, rfl, hwa, hw1, ⟨na, nx, rfl, hna, nal⟩, hw3, hw4⟩ := id hw
  obtain ⟨sb, sxs, rfl, hsb, ssal⟩ := id hss
  have hat1 : atI [w1, V.ref na, w3, w4] 1 = some (.ref na) := rfl
  have hmL := (cst.mL _ hlm).1
  dsimp only at hmL
  have hpm : ∀ p ∈ ps, p ∈ pairsOf LL ++ [] := fun p hp => List.mem_append_left _ (List.mem_flatMap.mpr ⟨_, hlm, hp⟩)
  have hndp : (ps.map (·.1)).Nodup := by
    have h1 := cst.nd
    rw [List.append_nil] at h1
    have h2 : (ps.map (·.1)).Sublist ((pairsOf LL).map (·.1)) := by
      refine List.Sublist.map _ ?_
      have := List.sublist_flatten_of_mem (List.mem_map.mpr ⟨_, hlm, rfl⟩ : ps ∈ LL.map (·.2))
      rw [← List.flatMap_def] at this
      exact this
    exact h1.sublist h2
  refine ⟨_, (pss_cons (ps_setLc (i := 4) (own := [("_law_state", 5)]) rfl sc_l_fill.nd rfl rfl (sw_true rfl rfl rfl (by decide +kernel)) (piL K (pv 1)) (blkOk_by (N := ["_law_level", "_law_states", "_law_world_here", "_law_rest", "_law_images_here", "_law_state", "_law_pair", "_law_led", "_law_hits_here", "_law_hit"]) (sc := defScope s_l_fill) (by decide +kernel)) (fun _ _ _ _ _ => (pg_name (i := 5) sc_l_fill.nd rfl (Or.inl rfl))) (fun _ _ _ _ _ => pts_nil) (fun _ _ _ _ _ => (pe_fn h_l_images hr (pa_cons (pv 5) (pa_cons (pv 2) pa_nil)))))
    (pss_one (ps_for PassesOwn.never rfl (piL K (pv 0)) (pg_name (i := 6) sc_l_fill.nd rfl (Or.inl rfl))
     (pss_one (ps_for PassesOwn.never rfl (piL K (pe_fn h_l_wanted hr (pa_cons (pe_lst (pa_cons (pe_ix (ixL K) (pv 6) pe_int (fun _ _ => rfl)) pa_nil)) (pa_cons (pv 2) pa_nil)))) (pg_name (i := 7) sc_l_fill.nd rfl (Or.inl rfl))
      (pss_cons (ps_set (i := 8) sc_l_fill.nd rfl (Or.inl rfl) (pe_fn h_l_hits hr (pa_cons (pv 4) (pa_cons (pv 7) pa_nil))))
      (pss_cons (ps_set (i := 9) sc_l_fill.nd rfl (Or.inl rfl) (pe_ix (ixL K) (pv 8) (pe_fn h_l_draw hr (pa_cons (pv 3) (pa_cons (pe_callB (lenS K) (by rfl) T.len PySem.boot_len (pa_cons (pv 8) pa_nil)) pa_nil))) (fun _ _ => rfl)))
      (pss_one (ps_expr (pe_bm PySem.F.plainAttrs_list PySem.F.slot_list_append PySem.F.type_list_append mt_append (pe_ix (ixL K) (pv 6) pe_int (fun _ _ => rfl)) (pa_cons (pe_tup (pa_cons (pe_ix (ixT K) (pv 9) pe_int (fun _ _ => rfl)) (pa_cons (pe_ix (ixL K) (pe_ix (ixL K) (pv 2) pe_int (fun _ _ => rfl)) (pe_ix (ixT K) (pv 9) pe_int (fun _ _ => rfl)) (fun _ _ => rfl)) pa_nil))) pa_nil))))))))))), ?_⟩
  walk_at "rd"
  refine compL up_Im ((ss.map fun s => imM x s).map some) S (by walk_at "gv") hsb (by simp [ssal.len]) (by simp [sizeLine_eq]; omega) (by intro _; rfl) yes_all (fun i1 x1 y1 G5 M5 H5 hx1 ho E5 S5 Q' kk => ?_) (fun ib iacc G5 H5 E5 S5 e5 al5 => ?_)
  · have ey := some_at ho
    obtain ⟨s, es, hs⟩ := ssal.at hx1
    rw [List.getElem?_map, es] at ey
    cases ey
    walk_at "rd"
    refine ⟨G5, M5, (s, x), S5, ⟨_, _, rfl, up_LI _ _ _ _ E5 hs, up_Wd _ _ _ _ E5 hw, ok, hscd s (List.mem_of_getElem? es)⟩, fun v G6 H6 E6 S6 hv => ?_⟩
    exact kk v G6 H6 E6 S6 hv
  rw [filt_some] at al5
  have cst5 := cst_same cst E5
  walk_at "rd"
  refine loopL (refs ps) (fun j σ G' M' => ∃ z5 z6 z7 z8 z9 Sg', σ = [some (.ref L), some (.ref sb), some (.ref wa), some (.ref R), some (.ref ib), z5, z6, z7, z8, z9] ∧ Same G5 G' ∧ Cst x.rows.length R M0 Sg' G' M' 100 la LL [] ∧
      ∀ j' p, j ≤ j' → ps[j']? = some p → EmpN Sg' M' p.1 (9 * j)) S5 (by walk_at "gv")
    ⟨_, _, _, _, _, Sg, rfl, Same.refl _, cst5, fun j' p _ hp => empN_of (hE0 p (List.mem_of_getElem? hp))⟩ (fun j σ G' M' hI H' S' => ?_) (fun j x3 σ G' M' H' hx3 hI S' => ?_) (fun σ Gn Mn Hn hI Sn => ?_)
  · obtain ⟨_, _, _, _, _, _, rfl, _, c', _⟩ := hI
    exact S'.m _ _ (c'.mL _ hlm).1
  · obtain ⟨z5, z6, z7, z8, z9, Sg', rfl, E', c', hE⟩ := hI
    have hj : j < ps.length := by
      have := (List.getElem?_eq_some_iff.mp hx3).1
      rw [refs, List.length_map] at this
      exact this
    have hpj : ps[j]? = some ps[j] := List.getElem?_eq_getElem hj
    obtain ⟨ps0, eps0⟩ : ∃ z, z = ps[j] := ⟨_, rfl⟩
    rw [← eps0] at hpj
    obtain ⟨p, s⟩ := ps0
    have hx4 := hx3
    rw [refs, List.getElem?_map, hpj] at hx4
    cases hx4
    have hpp := List.mem_of_getElem? hpj
    have hpk := c'.pk _ (hpm _ hpp)
    dsimp only at hpk
    obtain ⟨_, hMp, xv, b0, rfl, hxv, hcd, hsb0⟩ := c'.st p _ hpk
    obtain ⟨x', b', cs0, hMp', hMb, _, hcs0⟩ := hE j _ (Nat.le_refl _) hpj
    dsimp only at hMp'
    rw [hMp] at hMp'
    cases hMp'
    have hp0 : atI [xv, V.ref b0] 0 = some xv := rfl
    have hp1 : atI [xv, V.ref b0] 1 = some (.ref b0) := rfl
    walk_at "rd"
    apply rd_fL
    walk_at "rd"
    refine al_lst S' (by walk_at "gv") (by simp [sizeLine_eq]) (fun l6 G6 H6 E6 S6 f6 => ?_)
    have E06 := (E5.trans E').trans E6
    walk_at "rd"
    refine ⟨G6, M', ([s], x), S6, ⟨_, _, rfl, ⟨l6, _, rfl, f6, All2.nil.cons (up_LI _ _ _ _ E6 hxv)⟩, up_Wd _ _ _ _ E06 hw, ok, fun s' hs' => by rw [List.mem_singleton.mp hs']; exact hcd, by simp⟩, fun v G7 H7 E7 S7 ⟨ws, ⟨wb, wx, ev, hwb, wal⟩, wk⟩ => ?_⟩
    cases ev
    have hwcd := want_cd ok (fun s' hs' => by rw [List.mem_singleton.mp hs']; exact hcd) wk
    have hwsz : wx.length ≤ 9 := by
      rw [wal.len, wk.sz, List.length_singleton, Nat.mul_one]
      exact ok.sz
    have c7 := cst_same (cst_same c' E6) E7
    have E07 := E06.trans E7
    refine loopL wx (fun q σ G8 M8 => ∃ z7 z8 z9 Sg8 cs, σ = [some (.ref L), some (.ref sb), some (.ref wa), some (.ref R), some (.ref ib), z5, some (.ref p), z7, z8, z9] ∧ Same G7 G8 ∧ Cst x.rows.length R M0 Sg8 G8 M8 100 la LL [] ∧
        M8 p = some (.lst [xv, .ref b0]) ∧ M8 b0 = some (.lst cs) ∧ cs.length ≤ 9 * j + q ∧ Sg8 b0 = some .covs ∧ ∀ j' p', j + 1 ≤ j' → ps[j']? = some p' → EmpN Sg8 M8 p'.1 (9 * j + q)) S7 gv_cE
      ⟨_, _, _, Sg', cs0, rfl, Same.refl _, c7, hMp, hMb, hcs0, hsb0, fun j' p' hj' hp' => hE j' p' (by omega) hp'⟩ (fun q σ G8 M8 hI H8 S8 => ?_) (fun q x5 σ G8 M8 H8 hx5 hI S8 => ?_) (fun σ G8 M8 H8 hI S8 => ?_)
    · obtain ⟨_, _, _, _, _, rfl, E8, _⟩ := hI
      exact S8.g _ _ (E8 _ _ hwb)
    · obtain ⟨z7, z8, z9, Sg8, cs, rfl, E8, c8, g1, g2, hcs, hb1, hE8⟩ := hI
      obtain ⟨led, eled, lb, rfl, hlb⟩ := wal.at hx5
      have hledm := List.mem_of_getElem? eled
      have hlcd := hwcd led hledm
      have hq9 : q < 9 := by
        have := (List.getElem?_eq_some_iff.mp hx5).1
        omega
      obtain ⟨s', hs', t, ht, hasc⟩ := wk.el led hledm
      rw [List.mem_singleton.mp hs'] at hasc
      obtain ⟨k0, hk0, r0, hr0, hsub⟩ := hcov (p, s) hpp t ht
      have E08 := E07.trans E8
      have E58 := (E'.trans (E6.trans E7)).trans E8
      walk_at "rd"
      refine ⟨G8, M8, (ss.map (fun s => imM x s), led), S8, ⟨_, _, rfl, ⟨ib, iacc, rfl, E58 _ _ e5, al5.up up_Im E58⟩, ⟨lb, rfl, E8 _ _ hlb⟩, by dsimp only; rw [List.length_map]; exact hssz, fun im him => by
        obtain ⟨s', _, rfl⟩ := List.mem_map.mp him
        rw [imM, List.length_map]
        exact ok.nz, fun c hc => by have := hlcd.2.2 c hc; have := ok.n16; omega⟩, fun v G9 H9 E9 S9 ⟨hs, ⟨hb, ys, ev, hhb, hal⟩, hits⟩ => ?_⟩
      subst ev
      dsimp only at hits
      have hne : hs ≠ [] := by
        obtain ⟨i0, hi0⟩ := List.getElem?_of_mem hk0
        obtain ⟨j0, hj0⟩ := List.getElem?_of_mem hr0
        refine hits.al i0 j0 ⟨imM x k0, maskM (tabM r0 k0), by rw [List.getElem?_map, hi0]; rfl, by unfold imM; rw [List.getElem?_map, hj0]; rfl, ?_⟩
        have hc1 := tabM_ok (ok.nm r0 hr0) (hscd k0 hk0)
        exact (mask_sub (fun c hc => (hc1.2.2 c hc).1) fun c hc => (hlcd.2.2 c hc).1).mpr fun c hc => (hasc.2 c).mpr (hsub c hc)
      have hyl := hal.len
      have hy0 : 0 < hs.length := List.length_pos_iff.mpr hne
      walk_at "rd"
      refine ⟨G9, M8, R, ys.length, S9, c8.re, ⟨_, _, rfl, rfl, rfl, by omega⟩, fun v G10 M10 H10 E10 O10 R10 S10 ⟨d, ed, d0, d1⟩ => ?_⟩
      subst ed
      obtain ⟨hp, pv, ep, eat, hph⟩ := at_rel hal d0 d1
      obtain ⟨tt, rfl, htt⟩ := rP_ti hph
      obtain ⟨i2, k2, rfl, im, y, q1, q2, _⟩ := hits.el hp (List.mem_of_getElem? ep)
      have hkl : k2 < x.nm.length := by
        rw [List.getElem?_map] at q1
        cases e1 : ss[i2]? with
        | none => rw [e1] at q1; cases q1
        | some s2 =>
          rw [e1] at q1
          cases q1
          have := (List.getElem?_eq_some_iff.mp q2).1
          unfold imM at this
          simpa using this
      have hnl := ok.nl
      have hnxl := nal.len
      obtain ⟨ns, nv, en, enat, nb, rfl, hnb⟩ := at_rel nal (i := (k2 : Int)) (by omega) (by omega)
      have hnsz := (ok.names ns (List.mem_of_getElem? en)).2
      have c10 := cst_draw (cst_same c8 E9) E10 O10 R10
      have E010 := (E08.trans E9).trans E10
      have hbR : b0 ≠ R := fun z => by have := c8.hR; rw [← z, hb1] at this; cases this
      have hpk8 := c8.pk _ (hpm _ hpp)
      dsimp only at hpk8
      have hpR : p ≠ R := fun z => by have := c8.hR; rw [← z, hpk8] at this; cases this
      have g1' : M10 p = some (.lst [xv, .ref b0]) := by rw [O10 _ hpR]; exact g1
      have g2' : M10 b0 = some (.lst cs) := by rw [O10 _ hbR]; exact g2
      have htt2 := E10 _ _ htt
      have hhb2 := E10 _ _ hhb
      have hwa2 := E010 _ _ hwa
      have hna2 := E010 _ _ hna
      have hq0 : atI ([(i2 : Int), (k2 : Int)].map V.int) 0 = some (.int (i2 : Int)) := rfl
      have hq1 : atI ([(i2 : Int), (k2 : Int)].map V.int) 1 = some (.int (k2 : Int)) := rfl
      walk_at "rd"
      refine ⟨ty_lst (S10.m _ _ g2'), ?_⟩
      walk_at "rd"
      refine al_tup S10 (by walk_at "gv") (by simp [sizeLine_eq]) (fun t1 G11 H11 E11 S11 f11 => ?_)
      have c11 := cst_same c10 E11
      obtain ⟨_, hkc, _, hce⟩ := c11.st b0 _ hb1
      rw [g2'] at hkc
      cases hkc
      walk_at "rd"
      refine rd_appM S11 g2' (by rw [sizeLine_eq]; omega) (fun M12 H12 e12 S12 f12 => ?_)
      have c12 := cst_chg c11 hb1 e12 f12 ⟨by rw [List.length_append]; simp; omega, fun y hy => by
        rcases List.mem_append.mp hy with hy | hy
        · exact hce y hy
        · rw [List.mem_singleton.mp hy]
          exact ⟨((i2 : Int), ns), ⟨t1, _, _, rfl, f11, rfl, nb, rfl, (E010.trans E11) _ _ hnb⟩, by dsimp only; omega⟩⟩
      have hpb : p ≠ b0 := fun z => by rw [z, hb1] at hpk8; cases hpk8
      refine ⟨_, _, S12, _, _, _, Sg8, cs ++ [.ref t1], rfl, E8.trans ((E9.trans E10).trans E11), c12, by rw [e12 _ hpb]; exact g1', f12, by rw [List.length_append]; simp; omega, hb1, fun j' p' hj' hp' => ?_⟩
      have hk' := c8.pk _ (hpm _ (List.mem_of_getElem? hp'))
      exact empN_keep (empN_draw (hE8 j' p' hj' hp') O10 (fun z => by have := c8.hR; rw [← z, hk'] at this; cases this) c8.hR) (by omega) (fun z => by rw [z, hb1] at hk'; cases hk') e12 (Ext.refl _) (.inr ⟨_, f12, by rw [List.length_append]; simp; omega⟩)
    · obtain ⟨z7, z8, z9, Sg8, cs, rfl, E8, c8, g1, g2, hcs, hb1, hE8⟩ := hI
      refine ⟨_, _, S8, _, _, _, _, _, Sg8, rfl, E'.trans ((E6.trans E7).trans E8), c8, fun j' p' hj' hp' => ?_⟩
      obtain ⟨xx, bb, cc, r1, r2, r3, r4⟩ := hE8 j' p' hj' hp'
      exact ⟨xx, bb, cc, r1, r2, r3, by omega⟩
  · obtain ⟨z5, z6, z7, z8, z9, Sg', rfl, E', c', _⟩ := hI
    exact k Gn Mn Hn Sg' (E5.trans E') c' Sn
end
end N
/-! MX: plain maths: steps, renamings, the least number; the judge is sound -/
namespace N
def StR (S : List Row) : Prop := ∀ r ∈ S, ∀ q ∈ S, noughtsM r = noughtsM q → r = q
/-- m steps bring the rows to settled ones -/
def PR (sts : List (List Cp)) : Nat → List Row → Prop
  | 0, S => StR S
  | m + 1, S => ∃ st ∈ sts, PR sts m (S.map fun r => passedM r st)
theorem PR_sub {sts : List (List Cp)} : ∀ (m : Nat) (S S' : List Row), (∀ r ∈ S', r ∈ S) → PR sts m S → PR sts m S'
  | 0, S, S', h, k => fun r hr q hq e => k r (h r hr) q (h q hq) e
  | m + 1, S, S', h, ⟨st, hs, k⟩ => ⟨st, hs, PR_sub m _ _ (fun r hr => by
      obtain ⟨q, hq, rfl⟩ := List.mem_map.mp hr
      exact List.mem_map.mpr ⟨q, h q hq, rfl⟩) k⟩
theorem PR_congr {sts sts' : List (List Cp)} (h : ∀ st, st ∈ sts ↔ st ∈ sts') : ∀ (m : Nat) (S : List Row), PR sts m S ↔ PR sts' m S
  | 0, S => Iff.rfl
  | m + 1, S => ⟨fun ⟨st, hs, k⟩ => ⟨st, (h st).mp hs, (PR_congr h m _).mp k⟩, fun ⟨st, hs, k⟩ => ⟨st, (h st).mpr hs, (PR_congr h m _).mpr k⟩⟩
/-- the renaming of a step, what is left of the renaming behind it -/
def mapC (names : Row) (c : Cp) : Cp :=
  if names.getD c.1.toNat 0 < names.getD c.2.toNat 0 then (names.getD c.1.toNat 0, names.getD c.2.toNat 0) else (names.getD c.2.toNat 0, names.getD c.1.toNat 0)
def mapSt (names : Row) (st : List Cp) : List Cp := match st with
  | [c, d] => if (mapC names c).1 < (mapC names d).1 then [mapC names c, mapC names d] else [mapC names d, mapC names c]
  | _ => st.map (mapC names)
def swN (names : Row) (c : Cp) : Row :=
  if names.getD c.1.toNat 0 < names.getD c.2.toNat 0 then names else (names.set c.1.toNat (names.getD c.2.toNat 0)).set c.2.toNat (names.getD c.1.toNat 0)
def invN (names : Row) : Row := (List.range names.length).map fun (i : Nat) => (((names.findIdx fun v => v == (i : Int)) : Nat) : Int)
def fwM (n : Nat) : List (List Cp) := (scM n).map fun c => [c]
structure SsOk (n : Nat) (sts : List (List Cp)) : Prop where
  pl : ∀ st ∈ sts, ∀ r ∈ plainM n, passedM r st ∈ plainM n ∧ noughtsM (passedM r st) = noughtsM r
  cm : ∀ names ∈ namesM n, ∀ st ∈ sts, ∃ st' ∈ sts, ∃ names' ∈ namesM n, ∀ r ∈ plainM n, passedM (renamedM r names) st' = renamedM (passedM r st) names'
theorem ss_fw_pl : ∀ n, n ≤ 4 → ∀ st ∈ fwM n, ∀ r ∈ plainM n, passedM r st ∈ plainM n ∧ noughtsM (passedM r st) = noughtsM r := by decide +kernel
theorem ss_sl_pl : ∀ n, n ≤ 4 → ∀ st ∈ slM n, ∀ r ∈ plainM n, passedM r st ∈ plainM n ∧ noughtsM (passedM r st) = noughtsM r := by decide +kernel
theorem ss_fw_cm : ∀ n, n ≤ 4 → ∀ names ∈ namesM n, ∀ st ∈ fwM n, mapSt names st ∈ fwM n ∧ st.foldl swN names ∈ namesM n ∧ ∀ r ∈ plainM n, passedM (renamedM r names) (mapSt names st) = renamedM (passedM r st) (st.foldl swN names) := by decide +kernel
theorem ss_sl_cm : ∀ n, n ≤ 4 → ∀ names ∈ namesM n, ∀ st ∈ slM n, mapSt names st ∈ slM n ∧ st.foldl swN names ∈ namesM n ∧ ∀ r ∈ plainM n, passedM (renamedM r names) (mapSt names st) = renamedM (passedM r st) (st.foldl swN names) := by decide +kernel
theorem ss_fw {n : Nat} (hn : n ≤ 4) : SsOk n (fwM n) := ⟨ss_fw_pl n hn, fun nm h1 st h2 => ⟨_, (ss_fw_cm n hn nm h1 st h2).1, _, (ss_fw_cm n hn nm h1 st h2).2.1, (ss_fw_cm n hn nm h1 st h2).2.2⟩⟩
theorem ss_sl {n : Nat} (hn : n ≤ 4) : SsOk n (slM n) := ⟨ss_sl_pl n hn, fun nm h1 st h2 => ⟨_, (ss_sl_cm n hn nm h1 st h2).1, _, (ss_sl_cm n hn nm h1 st h2).2.1, (ss_sl_cm n hn nm h1 st h2).2.2⟩⟩
theorem rn_ok : ∀ n, n ≤ 4 → ∀ names ∈ namesM n, invN names ∈ namesM n ∧ ∀ r ∈ plainM n, renamedM r names ∈ plainM n ∧ noughtsM (renamedM r names) = noughtsM r ∧ renamedM (renamedM r names) (invN names) = r := by decide +kernel
theorem PR_ren1 {n : Nat} {sts : List (List Cp)} (hn : n ≤ 4) (ok : SsOk n sts) : ∀ (m : Nat) (S : List Row) (names : Row), (∀ r ∈ S, r ∈ plainM n) → names ∈ namesM n → PR sts m S → PR sts m (S.map fun r => renamedM r names)
  | 0, S, nm, hS, hm, k => fun r hr q hq e => by
    obtain ⟨r0, h1, rfl⟩ := List.mem_map.mp hr
    obtain ⟨q0, h2, rfl⟩ := List.mem_map.mp hq
    have a := (rn_ok n hn nm hm).2 r0 (hS r0 h1)
    have b := (rn_ok n hn nm hm).2 q0 (hS q0 h2)
    rw [a.2.1, b.2.1] at e
    rw [k r0 h1 q0 h2 e]
  | m + 1, S, nm, hS, hm, ⟨st, hs, k⟩ => by
    obtain ⟨st', hs', nm', hm', e⟩ := ok.cm nm hm st hs
    refine ⟨st', hs', ?_⟩
    have h1 := PR_ren1 hn ok m _ nm' (fun r hr => by
      obtain ⟨q, hq, rfl⟩ := List.mem_map.mp hr
      exact (ok.pl st hs q (hS q hq)).1) hm' k
    rw [List.map_map] at h1 ⊢
    refine (List.map_congr_left fun r hr => ?_) ▸ h1
    exact (e r (hS r hr)).symm
theorem PR_ren {n : Nat} {sts : List (List Cp)} (hn : n ≤ 4) (ok : SsOk n sts) {m : Nat} {S : List Row} {names : Row} (hS : ∀ r ∈ S, r ∈ plainM n) (hm : names ∈ namesM n) : PR sts m (S.map fun r => renamedM r names) ↔ PR sts m S := by
  refine ⟨fun h => ?_, PR_ren1 hn ok m S names hS hm⟩
  have h1 := PR_ren1 hn ok m _ (invN names) (fun r hr => by
    obtain ⟨q, hq, rfl⟩ := List.mem_map.mp hr
    exact ((rn_ok n hn names hm).2 q (hS q hq)).1) (rn_ok n hn names hm).1 h
  refine PR_sub m _ _ (fun r hr => ?_) h1
  refine List.mem_map.mpr ⟨_, List.mem_map.mpr ⟨r, hr, rfl⟩, ((rn_ok n hn names hm).2 r (hS r hr)).2.2⟩
theorem PR_up {n : Nat} {sts : List (List Cp)} (ok : SsOk n sts) (hne : sts ≠ []) : ∀ (m : Nat) (S : List Row), (∀ r ∈ S, r ∈ plainM n) → PR sts m S → PR sts (m + 1) S
  | 0, S, hS, k => by
    obtain ⟨st, hs⟩ := List.exists_mem_of_ne_nil _ hne
    refine ⟨st, hs, fun r hr q hq e => ?_⟩
    obtain ⟨r0, h1, rfl⟩ := List.mem_map.mp hr
    obtain ⟨q0, h2, rfl⟩ := List.mem_map.mp hq
    rw [(ok.pl st hs r0 (hS r0 h1)).2, (ok.pl st hs q0 (hS q0 h2)).2] at e
    rw [k r0 h1 q0 h2 e]
  | m + 1, S, hS, ⟨st, hs, k⟩ => ⟨st, hs, PR_up ok hne m _ (fun r hr => by
      obtain ⟨q, hq, rfl⟩ := List.mem_map.mp hr
      exact (ok.pl st hs q (hS q hq)).1) k⟩
theorem PR_upk {n : Nat} {sts : List (List Cp)} (ok : SsOk n sts) (hne : sts ≠ []) {m : Nat} {S : List Row} (hS : ∀ r ∈ S, r ∈ plainM n) (h : PR sts m S) : ∀ k, PR sts (m + k) S
  | 0 => h
  | k + 1 => PR_up ok hne _ S hS (PR_upk ok hne hS h k)
/-! what a paper's states are -/
theorem mem_dl {α : Type} {l : List α} {x : α} (h : x ∈ l.dropLast) : x ∈ l := (List.dropLast_sublist l).mem h
theorem plain_in : ∀ (n : Nat) (r : Row), isPlain n r → r ∈ plainM n
  | 0, r, ⟨h, _⟩ => by
    have : r = [] := List.length_eq_zero_iff.mp (by omega)
    rw [this]
    decide
  | n + 1, r, ⟨h, k⟩ => by
    have hne : r ≠ [] := fun z => by rw [z] at h; simp at h; omega
    have e := List.dropLast_concat_getLast hne
    have h1 : r.dropLast ∈ plainM n := plain_in n _ ⟨by rw [List.length_dropLast]; omega, fun x hx => k x (mem_dl hx)⟩
    show r ∈ (plainM n).flatMap fun r => [r ++ [0], r ++ [1]]
    refine List.mem_flatMap.mpr ⟨_, h1, ?_⟩
    rcases k _ (List.getLast_mem hne) with e0 | e0
    · rw [e0] at e
      rw [← e]
      simp
    · rw [e0] at e
      rw [← e]
      simp
theorem names_of {n : Nat} : ∀ (k : Nat) (ns : Row), ns.length = k → ns.Nodup → (∀ v ∈ ns, 0 ≤ v ∧ v < n) → ns ∈ nmK n k
  | 0, ns, h, _, _ => by
    rw [List.length_eq_zero_iff.mp h]
    exact List.mem_singleton.mpr rfl
  | k + 1, ns, h, nd, hin => by
    have hne : ns ≠ [] := fun z => by rw [z] at h; simp at h
    have e := List.dropLast_concat_getLast hne
    have nd2 := nd
    rw [← e, List.nodup_append] at nd2
    have h1 : ns.dropLast ∈ nmK n k := names_of k _ (by rw [List.length_dropLast, h]; rfl) nd2.1 fun x hx => hin x (mem_dl hx)
    have hl := hin _ (List.getLast_mem hne)
    show ns ∈ (nmK n k).flatMap (nmI n)
    refine List.mem_flatMap.mpr ⟨_, h1, ?_⟩
    unfold nmI
    refine List.mem_map.mpr ⟨(ns.getLast hne).toNat, List.mem_filter.mpr ⟨List.mem_range.mpr (by omega), ?_⟩, ?_⟩
    · have e2 : (((ns.getLast hne).toNat : Nat) : Int) = ns.getLast hne := by omega
      rw [e2]
      have : ¬ ns.getLast hne ∈ ns.dropLast := fun z => nd2.2.2 _ z _ (List.mem_singleton.mpr rfl) rfl
      simp [this]
    · have e2 : (((ns.getLast hne).toNat : Nat) : Int) = ns.getLast hne := by omega
      rw [e2]
      exact e
theorem names_perm {n : Nat} {ns : Row} (h : Perm0 ns) (hl : (ns.length : Int) = n) : ns ∈ namesM n := by
  have hl : ns.length = n := by omega
  refine names_of n ns hl ?_ fun v hv => ?_
  · refine h.nodup_iff.mpr ?_
    refine List.Pairwise.map _ (fun a b hab z => hab (Int.ofNat.inj z)) List.nodup_range
  · obtain ⟨i, hi, rfl⟩ := List.mem_map.mp (h.mem_iff.mp hv)
    have := List.mem_range.mp hi
    omega
theorem uns_no {n : Nat} {s : List Row} (h : StOk n s) (u : unsettledM s) : ¬ StR s := fun k => by
  obtain ⟨c, _, hc⟩ := u
  obtain ⟨i, j, hij, h1, h2⟩ := count_two _ hc
  unfold countsM at h1 h2
  rw [List.getElem?_map] at h1 h2
  cases e1 : s[i]? with
  | none => rw [e1] at h1; cases h1
  | some a =>
    cases e2 : s[j]? with
    | none => rw [e2] at h2; cases h2
    | some b =>
      rw [e1] at h1
      rw [e2] at h2
      have q1 : (noughtsM a : Int) = c := Option.some.inj h1
      have q2 : (noughtsM b : Int) = c := Option.some.inj h2
      have hab := k a (List.mem_of_getElem? e1) b (List.mem_of_getElem? e2) (by omega)
      obtain ⟨hi, ei⟩ := List.getElem?_eq_some_iff.mp e1
      obtain ⟨hj, ej⟩ := List.getElem?_eq_some_iff.mp e2
      have hp := List.pairwise_iff_getElem.mp h.2 i j hi hj hij
      rw [ei, ej, hab, ltR_irrefl] at hp
      cases hp
theorem need_no {n : Nat} {levels : List Lv} {sts : List (List Cp)} (hn : n ≤ 4) (ok : SsOk n sts) (h : NeedOk n levels sts) (hne : levels ≠ []) : ¬ PR sts (levels.length - 1) (plainM n) := by
  rcases h with h | ⟨hall, ⟨p0, h0, hp0⟩, hlead, ⟨ll, hll, hun⟩⟩
  · exact absurd h hne
  have hlen : 0 < levels.length := List.length_pos_iff.mpr hne
  have key : ∀ (k i : Nat), i + k + 1 = levels.length → ∀ l, levels[i]? = some l → ∀ p ∈ l, ¬ PR sts k p.1 := by
    intro k
    induction k with
    | zero =>
      intro i hi l hl p hp
      have e : i = levels.length - 1 := by omega
      subst e
      rw [hll] at hl
      cases hl
      exact uns_no ((hall ll (List.mem_of_getElem? hll)).2 p hp) (hun p hp)
    | succ k ih =>
      rintro i hi l hl p hp ⟨st, hs, hk⟩
      obtain ⟨j, hj⟩ := List.getElem?_of_mem hs
      have hi1 : i + 1 < levels.length := by omega
      have hl1 : levels[i + 1]? = some levels[i + 1] := List.getElem?_eq_getElem hi1
      obtain ⟨_, hc⟩ := hlead i l _ hl hl1 p hp
      obtain ⟨idx, names, q, _, hnl, hpm, _, hq, hcov⟩ := hc j st hj
      have hqm := List.mem_of_getElem? hq
      have hst := (hall _ (List.mem_of_getElem? hl1)).2 q hqm
      have hqp : ∀ r ∈ q.1, r ∈ plainM n := fun r hr => plain_in n r (hst.1 r hr)
      refine ih (i + 1) (by omega) _ hl1 q hqm ?_
      refine (PR_ren hn ok hqp (names_perm hpm hnl)).mp ?_
      refine PR_sub k _ _ (fun r hr => ?_) hk
      obtain ⟨r0, hr0, rfl⟩ := List.mem_map.mp hr
      exact hcov r0 hr0
  have := key (levels.length - 1) 0 (by omega) [p0] h0 p0 (List.mem_singleton.mpr rfl)
  rw [hp0] at this
  exact this
/-! what a network's comparers do -/
theorem PR_run {n : Nat} {sts : List (List Cp)} (ok : SsOk n sts) : ∀ (Ls : List (List Cp)) (S : List Row), (∀ l ∈ Ls, ∃ st ∈ sts, ∀ r ∈ plainM n, passedM r l = passedM r st) → (∀ r ∈ S, r ∈ plainM n) → StR (S.map fun r => passedM r Ls.flatten) → PR sts Ls.length S
  | [], S, _, _, h => by
    have e : (S.map fun r => passedM r ([] : List (List Cp)).flatten) = S := List.map_id' S
    rw [e] at h
    exact h
  | l :: Ls, S, hL, hS, h => by
    obtain ⟨st, hs, e⟩ := hL l (List.mem_cons_self ..)
    refine ⟨st, hs, PR_run ok Ls _ (fun l' h' => hL l' (List.mem_cons_of_mem _ h')) (fun r hr => ?_) ?_⟩
    · obtain ⟨q, hq, rfl⟩ := List.mem_map.mp hr
      exact (ok.pl st hs q (hS q hq)).1
    · rw [List.map_map]
      refine (List.map_congr_left fun r hr => ?_) ▸ h
      show passedM r (l ++ Ls.flatten) = passedM (passedM r st) Ls.flatten
      rw [← e r (hS r hr)]
      unfold passedM
      rw [List.foldl_append]
theorem sort_eq0 : ∀ n, n ≤ 4 → ∀ r ∈ plainM n, ∀ q ∈ plainM n, (sortedM r && sortedM q && noughtsM r == noughtsM q) = true → r = q := by decide +kernel
theorem sort_eq (n : Nat) (hn : n ≤ 4) (r : Row) (hr : r ∈ plainM n) (q : Row) (hq : q ∈ plainM n) (h1 : sortedM r = true) (h2 : sortedM q = true) (h3 : noughtsM r = noughtsM q) : r = q := sort_eq0 n hn r hr q hq (by rw [h1, h2, h3]; simp)
theorem sc_pl : ∀ n, n ≤ 4 → ∀ c ∈ scM n, ∀ r ∈ plainM n, cmpM r c ∈ plainM n := by decide +kernel
theorem pass_pl {n : Nat} (hn : n ≤ 4) : ∀ (cs : List Cp) (r : Row), (∀ c ∈ cs, c ∈ scM n) → r ∈ plainM n → passedM r cs ∈ plainM n
  | [], r, _, h => h
  | c :: cs, r, hc, h => pass_pl hn cs _ (fun d hd => hc d (List.mem_cons_of_mem _ hd)) (sc_pl n hn c (hc c (List.mem_cons_self ..)) r h)
theorem sc_of {n : Nat} {c : Cp} (h0 : 0 ≤ c.1) (h1 : c.1 < c.2) (h2 : c.2 < n) : c ∈ scM n := by
  unfold scM
  refine List.mem_flatMap.mpr ⟨c.1.toNat, List.mem_range.mpr (by omega), List.mem_map.mpr ⟨(c.2 - c.1 - 1).toNat, List.mem_range.mpr (by omega), ?_⟩⟩
  refine Prod.ext ?_ ?_ <;> dsimp only <;> omega
theorem sorter_st {n : Nat} {cs : List Cp} (hn : n ≤ 4) (h : SorterOk n cs) : (∀ c ∈ cs, c ∈ scM n) ∧ StR ((plainM n).map fun r => passedM r cs) := by
  have hc : ∀ c ∈ cs, c ∈ scM n := fun c hc => let ⟨a, b, d⟩ := h.1 c hc; sc_of a b d
  refine ⟨hc, fun r hr q hq e => ?_⟩
  obtain ⟨r0, h1, rfl⟩ := List.mem_map.mp hr
  obtain ⟨q0, h2, rfl⟩ := List.mem_map.mp hq
  exact sort_eq n hn _ (pass_pl hn cs r0 hc h1) _ (pass_pl hn cs q0 hc h2) (h.2 r0 h1) (h.2 q0 h2) e
theorem flat_one : ∀ cs : List Cp, (cs.map fun c => [c]).flatten = cs
  | [] => rfl
  | c :: cs => by rw [List.map_cons, List.flatten_cons, flat_one cs]; rfl
theorem fw_run {n : Nat} {cs : List Cp} (hn : n ≤ 4) (h : SorterOk n cs) : PR (fwM n) cs.length (plainM n) := by
  obtain ⟨hc, hs⟩ := sorter_st hn h
  have := PR_run (ss_fw hn) (cs.map fun c => [c]) (plainM n) (fun l hl => by
    obtain ⟨c, hcc, rfl⟩ := List.mem_map.mp hl
    exact ⟨[c], List.mem_map.mpr ⟨c, hc c hcc, rfl⟩, fun _ _ => rfl⟩) (fun r hr => hr) (by rw [flat_one]; exact hs)
  rw [List.length_map] at this
  exact this
/-! layers -/
def djC (c d : Cp) : Bool := decide (c.1 ≠ d.1) && decide (c.1 ≠ d.2) && decide (c.2 ≠ d.1) && decide (c.2 ≠ d.2)
theorem dj_iff {c d : Cp} : djC c d = true ↔ c.1 ≠ d.1 ∧ c.1 ≠ d.2 ∧ c.2 ≠ d.1 ∧ c.2 ≠ d.2 := by
  unfold djC
  simp only [Bool.and_eq_true, decide_eq_true_eq]
  constructor
  · rintro ⟨⟨⟨a, b⟩, c⟩, d⟩
    exact ⟨a, b, c, d⟩
  · rintro ⟨a, b, c, d⟩
    exact ⟨⟨⟨a, b⟩, c⟩, d⟩
theorem dj_comm : ∀ n, n ≤ 4 → ∀ c ∈ scM n, ∀ d ∈ scM n, djC d c = true → ∀ r ∈ plainM n, cmpM (cmpM r c) d = cmpM (cmpM r d) c := by decide +kernel
theorem dj_all {n : Nat} (hn : n ≤ 4) {c : Cp} (hc : c ∈ scM n) : ∀ (ds : List Cp) (r : Row), (∀ d ∈ ds, d ∈ scM n ∧ djC d c = true) → r ∈ plainM n → cmpM (passedM r ds) c = passedM (cmpM r c) ds
  | [], r, _, _ => rfl
  | d :: ds, r, hd, hr => by
    obtain ⟨h1, h2⟩ := hd d (List.mem_cons_self ..)
    have e := dj_all hn hc ds (cmpM r d) (fun x hx => hd x (List.mem_cons_of_mem _ hx)) (sc_pl n hn d h1 r hr)
    show cmpM (passedM (cmpM r d) ds) c = passedM (cmpM (cmpM r c) d) ds
    rw [e, dj_comm n hn c hc d h1 h2 r hr]
def Mt (n : Nat) (l : List Cp) : Prop := l ≠ [] ∧ (∀ c ∈ l, c ∈ scM n) ∧ l.Pairwise fun c d => djC c d = true
theorem mt1 : ∀ n, n ≤ 4 → ∀ c ∈ scM n, [c] ∈ slM n := by decide +kernel
theorem mt20 : ∀ n, n ≤ 4 → ∀ c ∈ scM n, ∀ d ∈ scM n, djC c d = true → (djC d c && (decide ([c, d] ∈ slM n) || decide ([d, c] ∈ slM n))) = true := by decide +kernel
theorem mt2 (n : Nat) (hn : n ≤ 4) (c : Cp) (hc : c ∈ scM n) (d : Cp) (hd : d ∈ scM n) (h : djC c d = true) : djC d c = true ∧ ([c, d] ∈ slM n ∨ [d, c] ∈ slM n) := by
  have := mt20 n hn c hc d hd h
  simpa using this
theorem mt3 : ∀ n, n ≤ 4 → ∀ c ∈ scM n, ∀ d ∈ scM n, djC c d = true → ∀ e ∈ scM n, ¬ (djC c e = true ∧ djC d e = true) := by decide +kernel
theorem mt_sl {n : Nat} (hn : n ≤ 4) {l : List Cp} (h : Mt n l) : ∃ st ∈ slM n, ∀ r ∈ plainM n, passedM r l = passedM r st := by
  obtain ⟨h1, h2, h3⟩ := h
  match l, h1, h2, h3 with
  | [c], _, h2, _ => exact ⟨[c], mt1 n hn c (h2 c (List.mem_cons_self ..)), fun _ _ => rfl⟩
  | [c, d], _, h2, h3 =>
    have hc := h2 c (List.mem_cons_self ..)
    have hd := h2 d (List.mem_cons_of_mem _ (List.mem_cons_self ..))
    have hcd := (List.pairwise_cons.mp h3).1 d (List.mem_cons_self ..)
    obtain ⟨hdc, hs⟩ := mt2 n hn c hc d hd hcd
    rcases hs with hs | hs
    · exact ⟨_, hs, fun _ _ => rfl⟩
    · exact ⟨_, hs, fun r hr => dj_comm n hn c hc d hd hdc r hr⟩
  | c :: d :: e :: t, _, h2, h3 =>
    exfalso
    have hc := h2 c (List.mem_cons_self ..)
    have hd := h2 d (List.mem_cons_of_mem _ (List.mem_cons_self ..))
    have he := h2 e (List.mem_cons_of_mem _ (List.mem_cons_of_mem _ (List.mem_cons_self ..)))
    obtain ⟨p1, p2⟩ := List.pairwise_cons.mp h3
    obtain ⟨p3, p4⟩ := List.pairwise_cons.mp p2
    exact mt3 n hn c hc d hd (p1 d (List.mem_cons_self ..)) e he ⟨p1 e (List.mem_cons_of_mem _ (List.mem_cons_self ..)), p3 e (List.mem_cons_self ..)⟩
theorem set_split {α : Type} {l : List α} {k : Nat} (h : k < l.length) (b : α) : l.set k b = l.take k ++ b :: l.drop (k + 1) := by
  exact List.set_eq_take_append_cons_drop .. |>.trans (if_pos h)
theorem lay_ok {n : Nat} (hn : n ≤ 4) (cs : List Cp) : (∀ c ∈ cs, c ∈ scM n) → ∃ Ls : List (List Cp), Ls.length = (dpM n cs).2 ∧ (∀ l ∈ Ls, Mt n l) ∧ (∀ r ∈ plainM n, passedM r cs = passedM r Ls.flatten) ∧
    ∀ (k : Nat) l, Ls[k]? = some l → ∀ d ∈ l, ((k + 1 : Nat) : Int) ≤ (dpM n cs).1.getD d.1.toNat 0 ∧ ((k + 1 : Nat) : Int) ≤ (dpM n cs).1.getD d.2.toNat 0 := by
  generalize hm : cs.length = m
  induction m generalizing cs with
  | zero =>
    intro _
    rw [List.length_eq_zero_iff.mp hm]
    exact ⟨[], rfl, (fun l hl => by cases hl), (fun _ _ => rfl), fun k l h => by simp at h⟩
  | succ m ih =>
    intro hcs
    have hne : cs ≠ [] := fun z => by rw [z] at hm; simp at hm
    obtain ⟨ds, hds⟩ : ∃ ds, ds = cs.dropLast := ⟨_, rfl⟩
    obtain ⟨c, hcl⟩ : ∃ c, c = cs.getLast hne := ⟨_, rfl⟩
    have e := List.dropLast_concat_getLast hne
    rw [← hds, ← hcl] at e
    subst e
    have hc : c ∈ scM n := hcs c (List.mem_append_right _ (List.mem_singleton.mpr rfl))
    obtain ⟨Ls, h1, h2, h3, h4⟩ := ih ds (by simpa using hm) fun d hd => hcs d (List.mem_append_left _ hd)
    have hpl : ∀ r ∈ plainM n, passedM r ds ∈ plainM n := fun r hr => pass_pl hn ds r (fun d hd => hcs d (List.mem_append_left _ hd)) hr
    have edp : dpM n (ds ++ [c]) = dpStep (dpM n ds) c := by unfold dpM; rw [List.foldl_append]; rfl
    have epa : ∀ r, passedM r (ds ++ [c]) = cmpM (passedM r ds) c := fun r => by unfold passedM; rw [List.foldl_append]; rfl
    obtain ⟨ok1, ok2⟩ := dpM_ok n ds
    obtain ⟨b1, b2, b3, b4⟩ := scM_in hc
    have hlt := (show c.1 < c.2 from by
      unfold scM at hc
      obtain ⟨i, hi, h⟩ := List.mem_flatMap.mp hc
      obtain ⟨j, hj, rfl⟩ := List.mem_map.mp h
      dsimp only
      omega)
    generalize dpM n ds = st at *
    obtain ⟨rc, dp⟩ := st
    dsimp only at h1 h4 ok1 ok2
    have hg : ∀ j : Nat, j < n → 0 ≤ rc.getD j 0 ∧ rc.getD j 0 ≤ dp := fun j hj => by
      have hj2 : j < rc.length := by omega
      rw [List.getD_eq_getElem?_getD, List.getElem?_eq_getElem hj2]
      exact ok2 _ (List.getElem_mem hj2)
    have g1 := hg c.1.toNat (by omega)
    have g2 := hg c.2.toNat (by omega)
    obtain ⟨lv, hlv⟩ : ∃ lv, lv = (if rc.getD c.2.toNat 0 > rc.getD c.1.toNat 0 then rc.getD c.2.toNat 0 else rc.getD c.1.toNat 0) := ⟨_, rfl⟩
    have hl1 : rc.getD c.1.toNat 0 ≤ lv ∧ rc.getD c.2.toNat 0 ≤ lv ∧ 0 ≤ lv ∧ lv ≤ dp := by rw [hlv]; split <;> omega
    have estep : dpStep (rc, dp) c = ((rc.set c.1.toNat (lv + 1)).set c.2.toNat (lv + 1), if lv = (dp : Int) then dp + 1 else dp) := by rw [hlv]; rfl
    rw [edp, estep]
    dsimp only
    -- what the wires tell from now on
    have hget : ∀ j : Nat, ((rc.set c.1.toNat (lv + 1)).set c.2.toNat (lv + 1)).getD j 0 = if j = c.1.toNat ∨ j = c.2.toNat then lv + 1 else rc.getD j 0 := fun j => by
      simp only [List.getD_eq_getElem?_getD, List.getElem?_set, List.length_set]
      by_cases e2 : c.2.toNat = j
      · subst e2
        rw [if_pos rfl, if_pos (by omega), if_pos (Or.inr rfl)]
        rfl
      · rw [if_neg e2]
        by_cases e1 : c.1.toNat = j
        · subst e1
          rw [if_pos rfl, if_pos (by omega), if_pos (Or.inl rfl)]
          rfl
        · rw [if_neg e1, if_neg (fun z => z.elim (fun z => e1 z.symm) (fun z => e2 z.symm))]
    have hge : ∀ j : Nat, rc.getD j 0 ≤ ((rc.set c.1.toNat (lv + 1)).set c.2.toNat (lv + 1)).getD j 0 := fun j => by
      rw [hget]
      split
      · rename_i h
        rcases h with h | h <;> subst h <;> omega
      · omega
    have hself : ((rc.set c.1.toNat (lv + 1)).set c.2.toNat (lv + 1)).getD c.1.toNat 0 = lv + 1 ∧ ((rc.set c.1.toNat (lv + 1)).set c.2.toNat (lv + 1)).getD c.2.toNat 0 = lv + 1 := ⟨by rw [hget, if_pos (Or.inl rfl)], by rw [hget, if_pos (Or.inr rfl)]⟩
    -- a layer from lv on has no wire of c
    have hfree : ∀ (k : Nat) l, Ls[k]? = some l → lv ≤ (k : Int) → ∀ d ∈ l, djC d c = true := fun k l hl hk d hd => by
      obtain ⟨q1, q2⟩ := h4 k l hl d hd
      have hdm := (h2 l (List.mem_of_getElem? hl)).2.1 d hd
      obtain ⟨d1, d2, d3, d4⟩ := scM_in hdm
      refine dj_iff.mpr ⟨fun z => ?_, fun z => ?_, fun z => ?_, fun z => ?_⟩
      · rw [z] at q1; omega
      · rw [z] at q1; omega
      · rw [z] at q2; omega
      · rw [z] at q2; omega
    by_cases hcase : lv = (dp : Int)
    · rw [if_pos hcase]
      refine ⟨Ls ++ [[c]], by rw [List.length_append, h1]; rfl, fun l hl => ?_, fun r hr => ?_, fun k l hl d hd => ?_⟩
      · rcases List.mem_append.mp hl with hl | hl
        · exact h2 l hl
        · rw [List.mem_singleton.mp hl]
          exact ⟨by simp, fun x hx => by rw [List.mem_singleton.mp hx]; exact hc, List.pairwise_singleton _ _⟩
      · rw [epa, h3 r hr, List.flatten_append]
        show _ = passedM r (Ls.flatten ++ [c])
        unfold passedM
        rw [List.foldl_append]
        rfl
      · by_cases hk : k < Ls.length
        · rw [List.getElem?_append_left hk] at hl
          obtain ⟨q1, q2⟩ := h4 k l hl d hd
          exact ⟨Int.le_trans q1 (hge _), Int.le_trans q2 (hge _)⟩
        · have hk2 : k = Ls.length := by
            have := (List.getElem?_eq_some_iff.mp hl).1
            rw [List.length_append] at this
            simp at this
            omega
          subst hk2
          rw [List.getElem?_append_right (Nat.le_refl _), Nat.sub_self] at hl
          cases hl
          rw [List.mem_singleton.mp hd, hself.1, hself.2]
          constructor <;> omega
    · rw [if_neg hcase]
      have hk0 : lv.toNat < Ls.length := by omega
      obtain ⟨b, hb⟩ : ∃ b, b = Ls[lv.toNat] := ⟨_, rfl⟩
      have hbk : Ls[lv.toNat]? = some b := by rw [hb]; exact List.getElem?_eq_getElem hk0
      have hbm := h2 b (List.mem_of_getElem? hbk)
      have hLs : Ls = Ls.take lv.toNat ++ b :: Ls.drop (lv.toNat + 1) := by
        rw [hb, List.getElem_cons_drop, List.take_append_drop]
      refine ⟨Ls.set lv.toNat (b ++ [c]), by rw [List.length_set, h1], fun l hl => ?_, fun r hr => ?_, fun k l hl d hd => ?_⟩
      · rcases List.mem_or_eq_of_mem_set hl with hl | hl
        · exact h2 l hl
        · rw [hl]
          refine ⟨by simp, fun x hx => ?_, ?_⟩
          · rcases List.mem_append.mp hx with hx | hx
            · exact hbm.2.1 x hx
            · rw [List.mem_singleton.mp hx]; exact hc
          · refine List.pairwise_append.mpr ⟨hbm.2.2, List.pairwise_singleton _ _, fun x hx y hy => ?_⟩
            rw [List.mem_singleton.mp hy]
            exact hfree lv.toNat b hbk (by omega) x hx
      · rw [epa, h3 r hr, set_split hk0]
        rw [hLs]
        have hT : (Ls.take lv.toNat ++ b :: Ls.drop (lv.toNat + 1)).take lv.toNat = Ls.take lv.toNat := by rw [← hLs]
        have hD : (Ls.take lv.toNat ++ b :: Ls.drop (lv.toNat + 1)).drop (lv.toNat + 1) = Ls.drop (lv.toNat + 1) := by rw [← hLs]
        rw [hT, hD, List.flatten_append, List.flatten_append, List.flatten_cons, List.flatten_cons]
        have e1 : ∀ (x y z : List Cp), passedM r (x ++ (y ++ z)) = passedM (passedM (passedM r x) y) z := fun x y z => by unfold passedM; rw [List.foldl_append, List.foldl_append]
        have e2 : passedM (passedM r (Ls.take lv.toNat).flatten) (b ++ [c]) = cmpM (passedM (passedM r (Ls.take lv.toNat).flatten) b) c := by
          generalize passedM r (Ls.take lv.toNat).flatten = r1
          unfold passedM
          rw [List.foldl_append]
          rfl
        rw [e1, e1, e2]
        have hsub : ∀ l ∈ Ls, ∀ x ∈ l, x ∈ scM n := fun l hl => (h2 l hl).2.1
        refine dj_all hn hc _ _ (fun d hd => ?_) (pass_pl hn _ _ hbm.2.1 (pass_pl hn _ _ (fun x hx => ?_) hr))
        · obtain ⟨l, hl, hdl⟩ := List.mem_flatten.mp hd
          obtain ⟨j, hj⟩ := List.getElem?_of_mem hl
          rw [List.getElem?_drop] at hj
          exact ⟨hsub l (List.mem_of_mem_drop hl) d hdl, hfree _ l hj (by omega) d hdl⟩
        · obtain ⟨l, hl, hxl⟩ := List.mem_flatten.mp hx
          exact hsub l (List.mem_of_mem_take hl) x hxl
      · rw [List.getElem?_set] at hl
        by_cases hk : lv.toNat = k
        · rw [if_pos hk, if_pos hk0] at hl
          cases hl
          subst hk
          rcases List.mem_append.mp hd with hd | hd
          · obtain ⟨q1, q2⟩ := h4 _ b hbk d hd
            exact ⟨Int.le_trans q1 (hge _), Int.le_trans q2 (hge _)⟩
          · rw [List.mem_singleton.mp hd, hself.1, hself.2]
            constructor <;> omega
        · rw [if_neg hk] at hl
          obtain ⟨q1, q2⟩ := h4 k l hl d hd
          exact ⟨Int.le_trans q1 (hge _), Int.le_trans q2 (hge _)⟩
theorem sl_run {n : Nat} {cs : List Cp} (hn : n ≤ 4) (h : SorterOk n cs) : PR (slM n) (depthM n cs) (plainM n) := by
  obtain ⟨hc, hs⟩ := sorter_st hn h
  obtain ⟨Ls, h1, h2, h3, _⟩ := lay_ok hn cs hc
  have := PR_run (ss_sl hn) Ls (plainM n) (fun l hl => mt_sl hn (h2 l hl)) (fun r hr => hr) ((List.map_congr_left fun r hr => h3 r hr) ▸ hs)
  rw [h1] at this
  exact this
/-- the least number -/
def LeastR (n : Nat) (sts : List (List Cp)) (L : Nat) : Prop := PR sts L (plainM n) ∧ ∀ m, m < L → ¬ PR sts m (plainM n)
theorem least_eq {n : Nat} {sts : List (List Cp)} {levels : List Lv} {L : Nat} (hn : n ≤ 4) (ok : SsOk n sts) (hL : LeastR n sts L) (h : NeedOk n levels sts) (hp : PR sts levels.length (plainM n)) : levels.length = L := by
  obtain ⟨h1, h2⟩ := hL
  have h3 : L ≤ levels.length := Nat.le_of_not_lt fun z => h2 _ z hp
  rcases Nat.lt_or_ge L levels.length with hlt | hge
  · have hne : levels ≠ [] := fun z => by rw [z] at hlt; exact absurd hlt (Nat.not_lt_zero _)
    have hst : sts ≠ [] := fun z => by
      subst z
      have e : levels.length = (levels.length - 1) + 1 := by omega
      rw [e] at hp
      obtain ⟨st, hs, _⟩ := hp
      cases hs
    have := PR_upk ok hst (fun r hr => hr) h1 (levels.length - 1 - L)
    have e : L + (levels.length - 1 - L) = levels.length - 1 := by omega
    rw [e] at this
    exact absurd this (need_no hn ok h hne)
  · omega
theorem fewest_eq {n : Nat} {number : Int} {x : Paper} {L : Nat} (hn : n ≤ 4) (hL : LeastR n (fwM n) L) (h : Fewest n number x) : number = L := by
  obtain ⟨_, h1, h2, h3, h4⟩ := h
  have e : x.2.1.length = x.2.2.length := by omega
  have := least_eq hn (ss_fw hn) hL h4 (e ▸ fw_run hn h3)
  omega
theorem layers_eq {n : Nat} {number : Int} {x : Paper} {L : Nat} (hn : n ≤ 4) (hL : LeastR n (slM n) L) (h : Layers n number x) : number = L := by
  obtain ⟨_, h1, h2, h3, h4⟩ := h
  have e : depthM n x.2.1 = x.2.2.length := by omega
  have := least_eq hn (ss_sl hn) hL h4 (e ▸ sl_run hn h2)
  omega
end N
/-! MY: plain maths: the law's own world -/
namespace N
def fullM (x : Wd) : Row := (List.range x.rows.length).map fun (i : Nat) => ((i : Nat) : Int)
/-- what the law's search rests on -/
structure PlOk (x : Wd) (PX : Nat → Row → Prop) : Prop where
  z : ∀ s, CdOk x.rows.length s → s.Nodup → (PX 0 s ↔ ¬ unsM x s)
  sub : ∀ m s s', CdOk x.rows.length s → CdOk x.rows.length s' → (∀ c ∈ s', c ∈ s) → PX m s → PX m s'
  ren : ∀ m s t, CdOk x.rows.length s → t ∈ x.nm → (PX m (tabM t s) ↔ PX m s)
  nx : ∀ m s, CdOk x.rows.length s → (PX (m + 1) s ↔ ∃ u ∈ x.sm, PX m (tabM u s))
  fin : ∃ m, m ≤ 7 ∧ PX m (fullM x)
theorem code_ok : ∀ n, n ≤ 4 → ∀ r ∈ plainM n, 0 ≤ codeM r ∧ codeM r < ((2 ^ n : Nat) : Int) ∧ (plainM n).getD (codeM r).toNat [] = r := by decide +kernel
theorem code_at : ∀ n, n ≤ 4 → ∀ i, i < 2 ^ n → codeM ((plainM n).getD i []) = (i : Int) := by decide +kernel
theorem sum_ok : ∀ n, n ≤ 4 → ∀ r ∈ plainM n, (noughtsM r : Int) + r.sum = (n : Int) := by decide +kernel
theorem row_in {n i : Nat} (h : i < 2 ^ n) : (plainM n).getD i [] ∈ plainM n := by
  have h2 : i < (plainM n).length := by rw [plainM_len]; exact h
  rw [List.getD_eq_getElem?_getD, List.getElem?_eq_getElem h2]
  exact List.getElem_mem h2
theorem map_getD {n k : Nat} (f : Row → Int) (h : k < 2 ^ n) : ((plainM n).map f).getD k 0 = f ((plainM n).getD k []) := by
  have h2 : k < (plainM n).length := by rw [plainM_len]; exact h
  simp only [List.getD_eq_getElem?_getD, List.getElem?_map, List.getElem?_eq_getElem h2]
  rfl
section
variable {n : Nat} {sts : List (List Cp)}
theorem wd_len : (wdM n sts).rows.length = 2 ^ n := plainM_len n
theorem dec_in {s : Row} (h : CdOk (wdM n sts).rows.length s) : ∀ r ∈ decM (wdM n sts) s, r ∈ plainM n := fun r hr => by
  obtain ⟨c, hc, rfl⟩ := List.mem_map.mp hr
  obtain ⟨h0, h1⟩ := h.2.2 c hc
  rw [wd_len] at h1
  exact row_in (by omega)
theorem dec_map {s : Row} (h : CdOk (wdM n sts).rows.length s) (hn : n ≤ 4) (f : Row → Row) (hf : ∀ r ∈ plainM n, f r ∈ plainM n) : decM (wdM n sts) (tabM ((plainM n).map fun r => codeM (f r)) s) = (decM (wdM n sts) s).map f := by
  unfold decM tabM
  rw [List.map_map, List.map_map]
  refine List.map_congr_left fun c hc => ?_
  obtain ⟨h0, h1⟩ := h.2.2 c hc
  rw [wd_len] at h1
  have hk : c.toNat < 2 ^ n := by omega
  show (plainM n).getD ((((plainM n).map fun r => codeM (f r)).getD c.toNat 0)).toNat [] = f ((plainM n).getD c.toNat [])
  rw [map_getD _ hk]
  exact (code_ok n hn _ (hf _ (row_in hk))).2.2
theorem row_inj (hn : n ≤ 4) {a b : Int} (a0 : 0 ≤ a) (a1 : a < ((2 ^ n : Nat) : Int)) (b0 : 0 ≤ b) (b1 : b < ((2 ^ n : Nat) : Int)) (h : (plainM n).getD a.toNat [] = (plainM n).getD b.toNat []) : a = b := by
  have h1 := code_at n hn a.toNat (by omega)
  have h2 := code_at n hn b.toNat (by omega)
  rw [h] at h1
  omega
theorem nou_sum (hn : n ≤ 4) {a b : Int} (a0 : 0 ≤ a) (a1 : a < ((2 ^ n : Nat) : Int)) (b0 : 0 ≤ b) (b1 : b < ((2 ^ n : Nat) : Int)) : noughtsM ((plainM n).getD a.toNat []) = noughtsM ((plainM n).getD b.toNat []) ↔ sumM (wdM n sts) a = sumM (wdM n sts) b := by
  have h1 := sum_ok n hn _ (row_in (n := n) (i := a.toNat) (by omega))
  have h2 := sum_ok n hn _ (row_in (n := n) (i := b.toNat) (by omega))
  show _ ↔ ((plainM n).getD a.toNat []).sum = ((plainM n).getD b.toNat []).sum
  omega
theorem two_count {f : Int → Int} {a b : Int} (hab : a ≠ b) (e : f a = f b) : ∀ {s : List Int}, a ∈ s → b ∈ s → 1 < (s.map f).count (f a)
  | [], h, _ => by cases h
  | c :: t, ha, hb => by
    rw [List.map_cons]
    rcases List.mem_cons.mp ha with h1 | h1
    · rcases List.mem_cons.mp hb with h2 | h2
      · exact absurd (h1.trans h2.symm) hab
      · rw [← h1, List.count_cons_self]
        have : f a ∈ t.map f := e ▸ List.mem_map.mpr ⟨b, h2, rfl⟩
        have := List.count_pos_iff.mpr this
        omega
    · rcases List.mem_cons.mp hb with h2 | h2
      · rw [e, ← h2, List.count_cons_self]
        have : f b ∈ t.map f := e ▸ List.mem_map.mpr ⟨a, h1, rfl⟩
        have := List.count_pos_iff.mpr this
        omega
      · have := two_count hab e h1 h2
        rw [List.count_cons]
        omega
theorem z_ok (hn : n ≤ 4) {s : Row} (h : CdOk (wdM n sts).rows.length s) (nd : s.Nodup) : StR (decM (wdM n sts) s) ↔ ¬ unsM (wdM n sts) s := by
  have hin : ∀ c ∈ s, 0 ≤ c ∧ c < ((2 ^ n : Nat) : Int) := fun c hc => by
    have := h.2.2 c hc
    rw [wd_len] at this
    exact this
  constructor
  · rintro k ⟨c, _, hc⟩
    obtain ⟨i, j, hij, h1, h2⟩ := count_two _ hc
    unfold sumsM at h1 h2
    rw [List.getElem?_map] at h1 h2
    cases e1 : s[i]? with
    | none => rw [e1] at h1; cases h1
    | some a =>
      cases e2 : s[j]? with
      | none => rw [e2] at h2; cases h2
      | some b =>
        rw [e1] at h1
        rw [e2] at h2
        have q1 : sumM (wdM n sts) a = c := Option.some.inj h1
        have q2 : sumM (wdM n sts) b = c := Option.some.inj h2
        have ha := List.mem_of_getElem? e1
        have hb := List.mem_of_getElem? e2
        obtain ⟨a0, a1⟩ := hin a ha
        obtain ⟨b0, b1⟩ := hin b hb
        have hr := k _ (List.mem_map.mpr ⟨a, ha, rfl⟩) _ (List.mem_map.mpr ⟨b, hb, rfl⟩) ((nou_sum hn a0 a1 b0 b1).mpr (q1.trans q2.symm))
        have := row_inj hn a0 a1 b0 b1 hr
        subst this
        have := (List.getElem?_inj (List.getElem?_eq_some_iff.mp e1).1 nd).mp (e1.trans e2.symm)
        omega
  · intro k r hr q hq e
    obtain ⟨a, ha, rfl⟩ := List.mem_map.mp hr
    obtain ⟨b, hb, rfl⟩ := List.mem_map.mp hq
    obtain ⟨a0, a1⟩ := hin a ha
    obtain ⟨b0, b1⟩ := hin b hb
    have es := (nou_sum (sts := sts) hn a0 a1 b0 b1).mp e
    by_cases hab : a = b
    · rw [hab]
    · exact absurd ⟨_, List.mem_map.mpr ⟨a, ha, rfl⟩, two_count (f := fun c => ((wdM n sts).rows.getD c.toNat []).sum) hab es ha hb⟩ k
theorem dec_full : decM (wdM n sts) (fullM (wdM n sts)) = plainM n := by
  unfold decM fullM
  rw [List.map_map, wd_len]
  refine List.ext_getElem? fun i => ?_
  rw [List.getElem?_map]
  by_cases hi : i < 2 ^ n
  · have h2 : i < (plainM n).length := by rw [plainM_len]; exact hi
    rw [List.getElem?_range hi]
    show some ((plainM n).getD ((i : Int)).toNat []) = _
    rw [List.getD_eq_getElem?_getD, Int.toNat_natCast, List.getElem?_eq_getElem h2]
    rfl
  · rw [List.getElem?_eq_none (by rw [List.length_range]; omega), List.getElem?_eq_none (by rw [plainM_len]; omega)]
    rfl
theorem pl_ok (hn : n ≤ 4) (ok : SsOk n sts) (hf : ∃ m, m ≤ 7 ∧ PR sts m (plainM n)) : PlOk (wdM n sts) (fun m s => PR sts m (decM (wdM n sts) s)) where
  z := fun s h nd => z_ok hn h nd
  sub := fun m s s' _ _ h k => PR_sub m _ _ (fun r hr => by
    obtain ⟨c, hc, rfl⟩ := List.mem_map.mp hr
    exact List.mem_map.mpr ⟨c, h c hc, rfl⟩) k
  ren := fun m s t h ht => by
    obtain ⟨names, hnm, rfl⟩ := List.mem_map.mp ht
    rw [nmT, dec_map h hn (fun r => renamedM r names) fun r hr => ((rn_ok n hn names hnm).2 r hr).1]
    exact PR_ren hn ok (dec_in h) hnm
  nx := fun m s h => by
    have e : ∀ st ∈ sts, decM (wdM n sts) (tabM (smT n st) s) = (decM (wdM n sts) s).map fun r => passedM r st := fun st hs => dec_map h hn (fun r => passedM r st) fun r hr => (ok.pl st hs r hr).1
    constructor
    · rintro ⟨st, hs, k⟩
      refine ⟨smT n st, List.mem_map.mpr ⟨st, hs, rfl⟩, ?_⟩
      rw [e st hs]
      exact k
    · rintro ⟨u, hu, k⟩
      obtain ⟨st, hs, rfl⟩ := List.mem_map.mp hu
      rw [e st hs] at k
      exact ⟨st, hs, k⟩
  fin := by
    rw [dec_full]
    exact hf
theorem nm_get (names : Row) {k : Nat} (h : k < 2 ^ n) : (nmT n names).getD k 0 = codeM (renamedM ((plainM n).getD k []) names) := map_getD _ h
theorem wd_ok (hn1 : 1 ≤ n) (hn : n ≤ 4) (ok : SsOk n sts) (hz : sts.length ≤ 9) : WdOk (wdM n sts) where
  n16 := by
    rw [wd_len]
    exact Nat.pow_le_pow_right (by decide) hn
  n2 := by
    rw [wd_len]
    exact Nat.pow_le_pow_right (n := 2) (i := 1) (by decide) hn1
  nm := fun t ht => by
    obtain ⟨names, hnm, rfl⟩ := List.mem_map.mp ht
    refine ⟨by rw [nmT, List.length_map]; rfl, fun c hc => ?_⟩
    obtain ⟨r, hr, rfl⟩ := List.mem_map.mp hc
    have := code_ok n hn _ ((rn_ok n hn names hnm).2 r hr).1
    rw [wd_len]
    exact ⟨this.1, this.2.1⟩
  sm := fun t ht => by
    obtain ⟨st, hs, rfl⟩ := List.mem_map.mp ht
    refine ⟨by rw [smT, List.length_map]; rfl, fun c hc => ?_⟩
    obtain ⟨r, hr, rfl⟩ := List.mem_map.mp hc
    have := code_ok n hn _ (ok.pl st hs r hr).1
    rw [wd_len]
    exact ⟨this.1, this.2.1⟩
  nl := (List.length_map _).symm
  n0 := by
    have h : ∀ n, n ≤ 4 → (namesM n).length ≠ 0 := by decide +kernel
    intro z
    have := congrArg List.length z
    rw [wdM, List.length_map] at this
    exact h n hn this
  nz := by
    have h : ∀ n, n ≤ 4 → (namesM n).length ≤ 24 := by decide +kernel
    show ((namesM n).map (nmT n)).length ≤ 24
    rw [List.length_map]
    exact h n hn
  sz := by
    show (sts.map (smT n)).length ≤ 9
    rw [List.length_map]
    exact hz
  names := fun ns h => by
    have := (names_in n hn ns h).1
    exact ⟨fun z => by rw [z] at this; simp at this; omega, by omega⟩
  rows := fun r h => by
    have := plainM_row n r h
    exact ⟨fun z => by rw [z] at this; simp at this; omega, by omega⟩
  inv := fun t ht => by
    obtain ⟨names, hnm, rfl⟩ := List.mem_map.mp ht
    obtain ⟨hi, hr⟩ := rn_ok n hn names hnm
    refine ⟨nmT n (invN names), List.mem_map.mpr ⟨_, hi, rfl⟩, fun c h0 h1 => ?_⟩
    rw [wd_len] at h1
    have hk : c.toNat < 2 ^ n := by omega
    obtain ⟨q1, _, q3⟩ := hr _ (row_in hk)
    obtain ⟨p1, p2, p3⟩ := code_ok n hn _ q1
    rw [nm_get names hk, nm_get (invN names) (by omega), p3, q3, code_at n hn _ hk]
    omega
end
/-- the layers of each number of wires that sort -/
def lySrt : Nat → List (List Cp)
  | 2 => [[(0, 1)]]
  | 3 => [[(0, 1)], [(1, 2)], [(0, 1)]]
  | 4 => [[(0, 1), (2, 3)], [(0, 2), (1, 3)], [(1, 2)]]
  | _ => []
def fwSrt : Nat → List (List Cp)
  | 2 => [[(0, 1)]]
  | 3 => [[(0, 1)], [(1, 2)], [(0, 1)]]
  | 4 => [[(0, 1)], [(2, 3)], [(0, 2)], [(1, 3)], [(1, 2)]]
  | _ => []
theorem srt_ok : ∀ n, n ≤ 4 → (∀ l ∈ lySrt n, l ∈ slM n) ∧ (lySrt n).length ≤ 7 ∧ (∀ l ∈ fwSrt n, l ∈ fwM n) ∧ (fwSrt n).length ≤ 7 := by decide +kernel
theorem srt_st : ∀ n, n ≤ 4 → ∀ r ∈ (plainM n), ∀ q ∈ plainM n, (noughtsM (passedM r (lySrt n).flatten) == noughtsM (passedM q (lySrt n).flatten)) = true → (passedM r (lySrt n).flatten == passedM q (lySrt n).flatten) = true := by decide +kernel
theorem srt_sf : ∀ n, n ≤ 4 → ∀ r ∈ (plainM n), ∀ q ∈ plainM n, (noughtsM (passedM r (fwSrt n).flatten) == noughtsM (passedM q (fwSrt n).flatten)) = true → (passedM r (fwSrt n).flatten == passedM q (fwSrt n).flatten) = true := by decide +kernel
theorem fin_sl {n : Nat} (hn : n ≤ 4) : ∃ m, m ≤ 7 ∧ PR (slM n) m (plainM n) :=
  ⟨_, (srt_ok n hn).2.1, PR_run (ss_sl hn) (lySrt n) (plainM n) (fun l hl => ⟨l, (srt_ok n hn).1 l hl, fun _ _ => rfl⟩) (fun _ h => h) fun r hr q hq e => by
    obtain ⟨a, ha, rfl⟩ := List.mem_map.mp hr
    obtain ⟨b, hb, rfl⟩ := List.mem_map.mp hq
    exact eq_of_beq (srt_st n hn a ha b hb (beq_iff_eq.mpr e))⟩
theorem fin_fw {n : Nat} (hn : n ≤ 4) : ∃ m, m ≤ 7 ∧ PR (fwM n) m (plainM n) :=
  ⟨_, (srt_ok n hn).2.2.2, PR_run (ss_fw hn) (fwSrt n) (plainM n) (fun l hl => ⟨l, (srt_ok n hn).2.2.1 l hl, fun _ _ => rfl⟩) (fun _ h => h) fun r hr q hq e => by
    obtain ⟨a, ha, rfl⟩ := List.mem_map.mp hr
    obtain ⟨b, hb, rfl⟩ := List.mem_map.mp hq
    exact eq_of_beq (srt_sf n hn a ha b hb (beq_iff_eq.mpr e))⟩
/-- the law's layers are the judge's -/
theorem ly_sl : ∀ n, n ≤ 4 → (∀ l ∈ (lyM n).tail, l ∈ slM n) ∧ (∀ l ∈ slM n, l ∈ (lyM n).tail) ∧ (lyM n).tail.length ≤ 9 ∧ (scM n).length ≤ 6 := by decide +kernel
theorem ss_congr {n : Nat} {sts sts' : List (List Cp)} (h : ∀ st, st ∈ sts' ↔ st ∈ sts) (ok : SsOk n sts) : SsOk n sts' :=
  ⟨fun st hs => ok.pl st ((h st).mp hs), fun nm h1 st hs => by
    obtain ⟨st', a, b⟩ := ok.cm nm h1 st ((h st).mp hs)
    exact ⟨st', (h st').mpr a, b⟩⟩
theorem least_congr {n L : Nat} {sts sts' : List (List Cp)} (h : ∀ st, st ∈ sts' ↔ st ∈ sts) (k : LeastR n sts' L) : LeastR n sts L :=
  ⟨(PR_congr h _ _).mp k.1, fun m hm z => k.2 m hm ((PR_congr h _ _).mpr z)⟩
end N
/-! PB: the law: planted -/
namespace N
open PySem L2
section
variable {K : PySem.W.Frag} {g : TG} {tb : TS} {D : Ends} {σ : L2.St} {H G0 M0 : Hp}
theorem loopRB {ta : TA} {n : Nat} (I : Nat → L2.St → Hp → Hp → Prop) (J : L2.St → Hp → Hp → Prop) (S : Hs G0 M0 H) (hta : GvA ta σ H [.int (n : Int)]) (hn : n < 2 ^ 62) (h0 : I 0 σ G0 M0)
    (fin : ∀ σ G M H, J σ G M → Hs G M H → D.nx σ H) (last : ∀ σ G M, I n σ G M → J σ G M)
    (step : (∀ σ G M H, J σ G M → Hs G M H → D.nx σ H) → ∀ i σ G M H, i < n → I i σ G M → Hs G M H → g (.int ((i : Nat) : Int)) σ H fun σ2 H2 => tb { D with nx := Nx I (i + 1), ct := Nx I (i + 1), bk := D.nx } σ2 H2) :
    tFor (iRng1 ta) g tb D σ H := loopR I S hta hn h0 (step fin) fun σ G M H h S => fin σ G M H (last σ G M h) S
theorem cut_nx {t : TS} (J : L2.St → Hp → Hp → Prop) (fin : ∀ σ G M H, J σ G M → Hs G M H → D.nx σ H) (k : (∀ σ G M H, J σ G M → Hs G M H → D.nx σ H) → t D σ H) : t D σ H := k fin
end
/-- what the states of a level tell -/
structure LvAt (x : Wd) (PX : Nat → Row → Prop) (i : Nat) (ss : List Row) : Prop where
  so : StsOk x ss
  nd : ∀ s ∈ ss, s.Nodup
  up : ∀ s ∈ ss, ∀ m, PX m s → PX (i + m) (fullM x)
  dn : ∀ m, PX (i + m) (fullM x) → ∃ s ∈ ss, PX m s
theorem full_cd {x : Wd} (ok : WdOk x) : CdOk x.rows.length (fullM x) := by
  have n2 := ok.n2
  refine ⟨fun z => ?_, by simp [fullM, ok.n16], fun c hc => ?_⟩
  · have := congrArg List.length z
    simp [fullM] at this
    rw [this] at n2
    simp at n2
  · obtain ⟨i, hi, rfl⟩ := List.mem_map.mp hc
    have := List.mem_range.mp hi
    omega
theorem lv_zero {x : Wd} {PX : Nat → Row → Prop} (ok : WdOk x) : LvAt x PX 0 [fullM x] where
  so := ⟨by simp, by simp, fun s hs => by rw [List.mem_singleton.mp hs]; exact full_cd ok⟩
  nd := fun s hs => by
    rw [List.mem_singleton.mp hs]
    exact List.Pairwise.map _ (fun a b hab z => hab (Int.ofNat.inj z)) List.nodup_range
  up := fun s hs m h => by
    rw [List.mem_singleton.mp hs] at h
    rw [Nat.zero_add]
    exact h
  dn := fun m h => by
    rw [Nat.zero_add] at h
    exact ⟨_, List.mem_singleton.mpr rfl, h⟩
theorem tab_nd {x : Wd} (ok : WdOk x) {t : Row} (ht : t ∈ x.nm) {s : Row} (hs : CdOk x.rows.length s) (nd : s.Nodup) : (tabM t s).Nodup := by
  obtain ⟨t', _, h⟩ := ok.inv t ht
  unfold tabM
  refine List.pairwise_map.mpr (List.Pairwise.imp_of_mem (fun {a b} ha hb hab z => ?_) nd)
  have e1 := h a (hs.2.2 a ha).1 (hs.2.2 a ha).2
  have e2 := h b (hs.2.2 b hb).1 (hs.2.2 b hb).2
  rw [z, e2] at e1
  exact hab e1.symm
theorem lv_next {x : Wd} {PX : Nat → Row → Prop} (ok : WdOk x) (pk : PlOk x PX) {i : Nat} {ss ws ks : List Row} (h : LvAt x PX i ss) (wk : WantOk x ss ws) (ck : ChosenOk x ws ks) : LvAt x PX (i + 1) ks ∧ ∀ s ∈ ss, CovOk x ks s := by
  have hscd := h.so.2.2
  have hwcd := want_cd ok hscd wk
  have hkcd := chosen_cd ok hwcd ck
  have hwnd : ∀ w ∈ ws, w.Nodup := fun w hw => by
    obtain ⟨s, hs, t, ht, ha⟩ := wk.el w hw
    exact ha.1.imp fun h => by omega
  refine ⟨⟨⟨ck.ne, by have := ck.sz; omega, hkcd⟩, fun k hk => ?_, fun k hk m hm => ?_, fun m hm => ?_⟩, fun s hs t ht => ?_⟩
  · obtain ⟨w, hw, hp | ⟨t, ht, hp⟩⟩ := ck.el k hk
    · exact hp.nodup_iff.mpr (hwnd w hw)
    · exact hp.nodup_iff.mpr (tab_nd ok ht (hwcd w hw) (hwnd w hw))
  · obtain ⟨w, hw, hp⟩ := ck.el k hk
    have h1 : PX m w := by
      rcases hp with hp | ⟨t, ht, hp⟩
      · exact pk.sub m k w (hkcd k hk) (hwcd w hw) (fun c hc => hp.mem_iff.mpr hc) hm
      · exact (pk.ren m w t (hwcd w hw) ht).mp (pk.sub m k _ (hkcd k hk) (tabM_ok (ok.nm t ht) (hwcd w hw)) (fun c hc => hp.mem_iff.mpr hc) hm)
    obtain ⟨s, hs, t, ht, ha⟩ := wk.el w hw
    have h2 : PX (m + 1) s := (pk.nx m s (hscd s hs)).mpr ⟨t, ht, pk.sub m w _ (hwcd w hw) (tabM_ok (ok.sm t ht) (hscd s hs)) (fun c hc => (ha.2 c).mpr hc) h1⟩
    have := h.up s hs (m + 1) h2
    rw [show i + 1 + m = i + (m + 1) by omega]
    exact this
  · rw [show i + 1 + m = i + (m + 1) by omega] at hm
    obtain ⟨s, hs, h1⟩ := h.dn (m + 1) hm
    obtain ⟨t, ht, h2⟩ := (pk.nx m s (hscd s hs)).mp h1
    obtain ⟨w, hw, ha⟩ := wk.al s hs t ht
    have h3 : PX m w := pk.sub m _ w (tabM_ok (ok.sm t ht) (hscd s hs)) (hwcd w hw) (fun c hc => (ha.2 c).mp hc) h2
    obtain ⟨k, hk, r, hr, hsub⟩ := ck.al w hw
    exact ⟨k, hk, (pk.ren m k r (hkcd k hk) hr).mp (pk.sub m w _ (hwcd w hw) (tabM_ok (ok.nm r hr) (hkcd k hk)) hsub h3)⟩
  · obtain ⟨w, hw, ha⟩ := wk.al s hs t ht
    obtain ⟨k, hk, r, hr, hsub⟩ := ck.al w hw
    exact ⟨k, hk, r, hr, fun c hc => (ha.2 c).mp (hsub c hc)⟩
section
variable {P : Program} {w : World} {K : PySem.W.Frag} {mg : Str → Option Value} {base : Heap}
def sp_l_planted : Sp := fun vs H Q _ => ∃ (G M : Hp) (R : Addr) (x : Wd) (v1 : V) (PX : Nat → Row → Prop), Hs G M H ∧ Rest M R ∧ vs = [v1, .ref R] ∧ rWd x v1 G ∧ WdOk x ∧ PlOk x PX ∧
  ∀ G' M' H' la xs, Same G G' → (∀ b o, b ≠ R → M b = some o → M' b = some o) → Rest M' R → Hs G' M' H' → M' la = some (.lst xs) → PX xs.length (fullM x) → (∀ m, m < xs.length → ¬ PX m (fullM x)) → xs.length ≤ 8 → Q (.ref la) H'
theorem ok_l_planted (T : Bt mg) (F : Dfn K mg "_law_planted" s_l_planted) (h_l_unsettled : Has P w K mg base 1 "_law_unsettled" ["_law_state", "_law_rows_here"] sp_l_unsettled) (h_l_fill : Has P w K mg base 3 "_law_fill" ["_law_level", "_law_states", "_law_world_here", "_law_rest"] sp_l_fill)
    (h_l_wanted : Has P w K mg base 1 "_law_wanted" ["_law_states", "_law_world_here"] sp_l_wanted) (h_l_chosen : Has P w K mg base 3 "_law_chosen" ["_law_wanted_here", "_law_world_here", "_law_rest"] sp_l_chosen)
    (h_l_draw : Has P w K mg base 1 "_law_draw" ["_law_rest", "_law_limit"] sp_l_draw) (h_l_shrunk : Has P w K mg base 2 "_law_shrunk" ["_law_state", "_law_rows_here", "_law_rest"] sp_l_shrunk) :
    Has P w K mg base 4 "_law_planted" ["_law_world_here", "_law_rest"] sp_l_planted := by
  refine F.ok sc_l_planted (fun _ _ _ _ _ _ us hl => match us, hl with | [_, _], _ => rfl) (fun vs H Q E h => by obtain ⟨_, _, _, _, _, _, _, _, rfl, _⟩ := h; rfl) (fun f cdv A outer s H vs Q E hr h => ?_)
  obtain ⟨G, M, R, x, v1, PX, S, hR, rfl, hw, ok, pk, k⟩ := h
  obtain ⟨wa, w1, w2, w3, w4, rfl, hwa, ⟨ra, rx, rfl, hra, ral⟩, hw2, hw3, hw4⟩ := id hw
  have hat0 : atI [V.ref ra, w2, w3, w4] 0 = some (.ref ra) := rfl
  have hrl := ral.len
  have n16 := ok.n16
  have n2 := ok.n2
  refine ⟨_, (pss_cons (ps_set (i := 2) sc_l_planted.nd rfl (Or.inr rfl) (pe_ix (ixL K) (pv 0) pe_int (fun _ _ => rfl)))
    (pss_cons (ps_set (i := 3) sc_l_planted.nd rfl (Or.inl rfl) (pe_lst (pa_cons (pe_listRg rfl (by rfl) T.list (prg_1 (by rfl) T.range (pe_callB (lenS K) (by rfl) T.len PySem.boot_len (pa_cons (pv 2) pa_nil)))) pa_nil)))
    (pss_cons (ps_set (i := 4) sc_l_planted.nd rfl (Or.inl rfl) (pe_lst pa_nil))
    (pss_cons (ps_for PassesOwn.never rfl (pi_range1 (by rfl) T.range (pa_cons pe_int pa_nil)) (pg_name (i := 5) sc_l_planted.nd rfl (Or.inl rfl))
     (pss_cons (ps_if (pt_cmpR op_gt (pe_callB (lenS K) (by rfl) T.len PySem.boot_len (pa_cons (pe_lc (own := [("_law_state", 6)]) rfl sc_l_planted.nd (piL K (pv 3)) (blkOk_by (N := ["_law_world_here", "_law_rest", "_law_rows_here", "_law_states", "_law_levels", "_law_count", "_law_state", "_law_pair", "_law_code_here"]) (sc := defScope s_l_planted) (by decide +kernel)) (fun _ _ _ _ _ => (pg_name (i := 6) sc_l_planted.nd rfl (Or.inl rfl))) (fun _ _ _ _ _ => (pts_one (pt_not (pt_val (pe_fn h_l_unsettled hr (pa_cons (pv 6) (pa_cons (pv 2) pa_nil))))))) (fun _ _ _ _ _ => (pv 6))) pa_nil)) pe_int (nomark _))
      (pss_one ps_break)
      pss_nil)
     (pss_cons (ps_if (pt_cmpR op_gt (pv 5) pe_int (nomark _))
      (pss_one (ps_expr (pe_fn h_l_fill hr (pa_cons (pe_ix (ixL K) (pv 4) (pe_op op_sub (pv 5) pe_int) (fun _ _ => rfl)) (pa_cons (pv 3) (pa_cons (pv 0) (pa_cons (pv 1) pa_nil)))))))
      pss_nil)
     (pss_cons (ps_expr (pe_bm PySem.F.plainAttrs_list PySem.F.slot_list_append PySem.F.type_list_append mt_append (pv 4) (pa_cons (pe_lc (own := [("_law_state", 6)]) rfl sc_l_planted.nd (piL K (pv 3)) (blkOk_by (N := ["_law_world_here", "_law_rest", "_law_rows_here", "_law_states", "_law_levels", "_law_count", "_law_state", "_law_pair", "_law_code_here"]) (sc := defScope s_l_planted) (by decide +kernel)) (fun _ _ _ _ _ => (pg_name (i := 6) sc_l_planted.nd rfl (Or.inl rfl))) (fun _ _ _ _ _ => pts_nil) (fun _ _ _ _ _ => (pe_lst (pa_cons (pv 6) (pa_cons (pe_lst pa_nil) pa_nil))))) pa_nil)))
     (pss_one (ps_set (i := 3) sc_l_planted.nd rfl (Or.inl rfl) (pe_fn h_l_chosen hr (pa_cons (pe_fn h_l_wanted hr (pa_cons (pv 3) (pa_cons (pv 0) pa_nil))) (pa_cons (pv 0) (pa_cons (pv 1) pa_nil))))))))))
    (pss_cons (ps_for PassesOwn.never rfl (pi_range1 (by rfl) T.range (pa_cons (pe_callB (lenS K) (by rfl) T.len PySem.boot_len (pa_cons (pv 4) pa_nil)) pa_nil)) (pg_name (i := 5) sc_l_planted.nd rfl (Or.inl rfl))
     (pss_one (ps_for PassesOwn.never rfl (piL K (pe_ix (ixL K) (pv 4) (pv 5) (fun _ _ => rfl))) (pg_name (i := 7) sc_l_planted.nd rfl (Or.inl rfl))
      (pss_cons (ps_if (PW.pt (pw_and (pt_chain op_lt op_eq pe_int (pv 5) (pe_op op_sub (pe_callB (lenS K) (by rfl) T.len PySem.boot_len (pa_cons (pv 4) pa_nil)) pe_int)) (pw_and1 (pt_cmpR op_eq (pe_fn h_l_draw hr (pa_cons (pv 1) (pa_cons pe_int pa_nil))) pe_int (nomark _)))))
       (pss_one (ps_asg (pe_fn h_l_shrunk hr (pa_cons (pe_ix (ixL K) (pv 7) pe_int (fun _ _ => rfl)) (pa_cons (pv 2) (pa_cons (pv 1) pa_nil)))) (pg_sub (pv 7) pe_int set_list)))
       pss_nil)
      (pss_one (ps_asg (pe_lc (own := [("_law_code_here", 8)]) rfl sc_l_planted.nd (piL K (pe_ix (ixL K) (pv 7) pe_int (fun _ _ => rfl))) (blkOk_by (N := ["_law_world_here", "_law_rest", "_law_rows_here", "_law_states", "_law_levels", "_law_count", "_law_state", "_law_pair", "_law_code_here"]) (sc := defScope s_l_planted) (by decide +kernel)) (fun _ _ _ _ _ => (pg_name (i := 8) sc_l_planted.nd rfl (Or.inl rfl))) (fun _ _ _ _ _ => pts_nil) (fun _ _ _ _ _ => (pe_ix (ixL K) (pv 2) (pv 8) (fun _ _ => rfl)))) (pg_sub (pv 7) pe_int set_list)))))))
    (pss_one (ps_ret (pv 4)))))))), ?_⟩
  walk_at "rd"
  apply rd_lst
  walk_at "rd"
  refine rd_lstRg (n := rx.length) S (by intro R_ q_; walk_at "rd"; exact q_) (by omega) (fun l0 G1 H1 E1 S1 f1 => ?_)
  walk_at "rd"
  refine ⟨by simp [sizeLine_eq], fun sb0 hsb0 => ?_⟩
  obtain ⟨G2, E2, S2, f2⟩ := S1.addG (o := .lst [.ref l0]) hsb0
  walk_at "rd"
  refine al_lstM S2 (by walk_at "gv") (by simp) (fun la M3 H3 e3 S3 f3 n3 _ => ?_)
  have hlR : la ≠ R := rest_ne (o := .lst []) hR n3
  have c0 : Cst x.rows.length R M (fun _ => none) G2 M3 100 la [] [] := ⟨(fun a k h => by cases h), rest_set hR e3 hlR, rfl, f3, rfl, hlR, (fun l hl => by cases hl), n3, (fun b o h1 h2 => ⟨by rw [e3 _ (cst_ne n3 h2)]; exact h2, rfl⟩), (fun p hp => by simp [pairsOf] at hp), by simp [pairsOf]⟩
  have hst0 : rL rLI [fullM x] (.ref sb0) G2 := ⟨sb0, _, rfl, f2, All2.nil.cons ⟨l0, rfl, by rw [E2 _ _ f1, fullM, hrl, List.map_map]; rfl⟩⟩
  have E02 := E1.trans E2
  walk_at "rd"
  refine loopRB (n := 8) (fun i σ G' M' => ∃ sb z5 z6 z7 z8 ss Sg LL, σ = [some (.ref wa), some (.ref R), some (.ref ra), some (.ref sb), some (.ref la), z5, z6, z7, z8] ∧ Same G2 G' ∧ rL rLI ss (.ref sb) G' ∧ LvAt x PX i ss ∧ (∀ m, m < i → ¬ PX m (fullM x)) ∧ Cst x.rows.length R M Sg G' M' 100 la LL [] ∧ LL.length = i ∧
      (∀ l ∈ LL, l.2.length ≤ 70000 ∧ ∀ p ∈ l.2, p.2.Nodup ∧ unsM x p.2) ∧ ∀ l, LL[i - 1]? = some l → (∀ p ∈ l.2, Emp Sg M' p.1) ∧ ∀ p ∈ l.2, CovOk x ss p.2)
    (fun σ G' M' => ∃ sb z5 z6 z7 z8 Sg LL, σ = [some (.ref wa), some (.ref R), some (.ref ra), some (.ref sb), some (.ref la), z5, z6, z7, z8] ∧ Same G2 G' ∧ Cst x.rows.length R M Sg G' M' 100 la LL [] ∧ LL.length ≤ 8 ∧ PX LL.length (fullM x) ∧ (∀ m, m < LL.length → ¬ PX m (fullM x)) ∧
      (∀ l ∈ LL, l.2.length ≤ 70000 ∧ ∀ p ∈ l.2, p.2.Nodup ∧ unsM x p.2)) S3 (by walk_at "gv") (by decide)
    ⟨sb0, _, _, _, _, _, _, [], rfl, Same.refl _, hst0, lv_zero ok, (fun m hm => absurd hm (Nat.not_lt_zero _)), c0, rfl, (fun l hl => by cases hl), fun l hl => by simp at hl⟩
    (fun σ G3 M4 H4 hI S4 => ?fin) (fun σ G3 M4 hI => ?last) (fun fin i σ G3 M4 H4 hi hI S4 => ?step)
  case last =>
    obtain ⟨_, _, _, _, _, _, _, _, _, _, _, _, hno, _⟩ := hI
    obtain ⟨m, hm, h⟩ := pk.fin
    exact absurd h (hno m (by omega))
  case step =>
    obtain ⟨sb, z5, z6, z7, z8, ss, Sg, LL, rfl, E3, hss, hlv, hno, cst, hLL, hL7, hprev⟩ := hI
    obtain ⟨_, sxs, es, hsb, ssal⟩ := id hss
    cases es
    obtain ⟨hsne, hssz, hscd⟩ := id hlv.so
    have E03 := E02.trans E3
    have hLLv : M4 la = some (.lst (LL.map fun l => .ref l.1)) := cst.ml
    walk_at "rd"
    refine compL up_LI (ss.map fun s => if unsB x s = true then none else some s) S4 (by walk_at "gv") hsb (by simp [ssal.len]) (by simp [sizeLine_eq]; omega) (by intro _; rfl) (fun i1 x2 o G5 M5 H5 hx2 ho E5 S5 Q' kk => ?_) (fun i1 x2 y2 G5 M5 H5 hx2 ho E5 S5 Q' kk => ?_) (fun p acc G5 H5 E5 S5 f5 al5 => ?_)
    · obtain ⟨l, el, hl⟩ := ssal.at hx2
      rw [List.getElem?_map, el] at ho
      have eo : (if unsB x l = true then none else some l) = o := by simpa using ho
      subst eo
      walk_at "rd"
      refine ⟨G5, M5, (l, x), S5, ⟨_, _, rfl, up_LI _ _ _ _ E5 hl, ⟨ra, rx, rfl, E5 _ _ (E03 _ _ hra), ral.up up_TI (E03.trans E5)⟩, hscd l (List.mem_of_getElem? el)⟩, fun v G6 H6 E6 S6 ⟨b, ev, hb⟩ => ?_⟩
      subst ev
      have hb2 := uns_bool hb
      dsimp only at hb2
      subst hb2
      walk_at "rd"
      have := kk G6 H6 E6 S6
      cases h : unsB x l <;> simpa [h] using this
    · obtain ⟨l, el, hl⟩ := ssal.at hx2
      rw [List.getElem?_map, el] at ho
      have eo : (if unsB x l = true then none else some l) = some y2 := by simpa using ho
      by_cases h : unsB x l = true
      · rw [if_pos h] at eo
        cases eo
      · rw [if_neg h] at eo
        cases eo
        walk_at "rd"
        exact kk _ G5 H5 (Same.refl _) S5 (up_LI _ _ _ _ E5 hl)
    have hal5 := al5.len
    have cst5 := cst_same cst E5
    have hmem : ∀ u, u ∈ (ss.map fun s => if unsB x s = true then none else some s).filterMap id ↔ u ∈ ss ∧ unsB x u = false := fun u => by
      rw [List.mem_filterMap]
      constructor
      · rintro ⟨o, ho, e⟩
        obtain ⟨s', hs', rfl⟩ := List.mem_map.mp ho
        by_cases h : unsB x s' = true
        · rw [if_pos h] at e
          cases e
        · rw [if_neg h] at e
          cases e
          exact ⟨hs', by simpa using h⟩
      · rintro ⟨hu, hb⟩
        exact ⟨some u, List.mem_map.mpr ⟨u, hu, by rw [if_neg (by rw [hb]; simp)]⟩, rfl⟩
    walk_at "rd"
    refine rd_ite (fun h0 => ?_) (fun h0 => ?_)
    · have hpos : 0 < ((ss.map fun s => if unsB x s = true then none else some s).filterMap id).length := by omega
      obtain ⟨u, hu⟩ := List.exists_mem_of_length_pos hpos
      obtain ⟨hus, hub⟩ := (hmem u).mp hu
      have hpx : PX i (fullM x) := hlv.up u hus 0 ((pk.z u (hscd u hus) (hlv.nd u hus)).mpr fun z => by rw [(unsB_iff x u).mpr z] at hub; cases hub)
      walk_at "rd"
      exact fin _ G5 M4 H5 ⟨_, _, _, _, _, Sg, LL, rfl, E3.trans E5, cst5, by omega, by rw [hLL]; exact hpx, by rw [hLL]; exact hno, hL7⟩ S5
    have hall : ∀ s ∈ ss, unsM x s := fun s hs => (unsB_iff x s).mp (by
      cases hb : unsB x s with
      | true => rfl
      | false =>
        have := List.length_pos_of_mem ((hmem s).mpr ⟨hs, hb⟩)
        omega)
    have hnoi : ¬ PX i (fullM x) := fun z => by
      obtain ⟨s, hs, h⟩ := hlv.dn 0 z
      exact (pk.z s (hscd s hs) (hlv.nd s hs)).mp h (hall s hs)
    have hno1 : ∀ m, m < i + 1 → ¬ PX m (fullM x) := fun m hm => by
      by_cases h : m = i
      · rw [h]; exact hnoi
      · exact hno m (by omega)
    have hsm : x.sm ≠ [] := fun z => by
      obtain ⟨m, _, h⟩ := pk.fin
      cases m with
      | zero => exact hno1 0 (by omega) h
      | succ m =>
        obtain ⟨u, hu, _⟩ := (pk.nx m _ (full_cd ok)).mp h
        rw [z] at hu
        cases hu
    apply rd_next
    dsimp only
    apply rd_seq
    refine cut_nx (fun σ G' M' => ∃ z6 z7 z8 Sg', σ = [some (.ref wa), some (.ref R), some (.ref ra), some (.ref sb), some (.ref la), some (.int i), z6, z7, z8] ∧ Same G5 G' ∧ Cst x.rows.length R M Sg' G' M' 100 la LL []) (fun σ Gn Mn Hn hI Sn => ?go) (fun go => ?fl)
    case fl =>
      walk_at "rd"
      refine rd_ite (fun h1 => ?_) (fun h1 => ?_)
      · have hi0 : 0 < i := by omega
        have hiL : i - 1 < LL.length := by omega
        have hLi : LL[i - 1]? = some LL[i - 1] := List.getElem?_eq_getElem hiL
        obtain ⟨l, el⟩ : ∃ l, l = LL[i - 1] := ⟨_, rfl⟩
        rw [← el] at hLi
        have hlm := List.mem_of_getElem? hLi
        obtain ⟨L, ps⟩ := l
        obtain ⟨hemp, hcov⟩ := hprev _ hLi
        have hatL : atI (LL.map fun l => V.ref l.1) ((i : Int) - 1) = some (.ref L) := at_of (j := i - 1) (by omega) (by rw [List.getElem?_map, hLi]; rfl)
        walk_at "rd"
        refine ⟨G5, M4, R, x, _, _, M, Sg, la, L, LL, ps, ss, S5, rfl, up_Wd _ _ _ _ (E03.trans E5) hw, ok, up_L up_LI _ _ _ _ E5 hss, hlv.so, cst5, hlm, (hL7 _ hlm).1, hemp, hcov, fun G6 M6 H6 Sg6 E6 c6 S6 => ?_⟩
        exact go _ G6 M6 H6 ⟨_, _, _, Sg6, rfl, E6, c6⟩ S6
      · exact go _ G5 M4 H5 ⟨_, _, _, Sg, rfl, Same.refl _, cst5⟩ S5
    case go =>
      obtain ⟨z6, z7, z8, Sgn, rfl, En, cn⟩ := hI
      have E0n := (E03.trans E5).trans En
      have ssal := ssal.up up_LI (E5.trans En)
      have hsbn := (E5.trans En) _ _ hsb
      have hmln := cn.ml
      have hll20 : (LL.map fun l => V.ref l.1).length < sizeLine := by rw [List.length_map, sizeLine_eq]; omega
      walk_at "rd"
      refine ⟨ty_lst (Sn.m _ _ hmln), ?_⟩
      walk_at "rd"
      refine leafLM (fun j G' M' acc => ∃ Sg' op, Same Gn G' ∧ Cst x.rows.length R M Sg' G' M' 100 la LL op ∧ acc = refs op ∧ op.length = j ∧ (∀ p ∈ op, Emp Sg' M' p.1) ∧ ∀ p ∈ op, p.2 ∈ ss) Sn (by walk_at "gv")
        ⟨Sgn, [], Same.refl _, cn, rfl, rfl, (fun p hp => by cases hp), fun p hp => by cases hp⟩ (fun j D G' M' H' acc S' hm hI => ?_) (Sn.g _ _ hsbn) (fun j D y G' M' H' acc hy S' hm hI => ?_) (fun D G' M' acc H' hI S' hm => ?_)
      · obtain ⟨_, _, E', _⟩ := hI
        exact S'.g _ _ (E' _ _ hsbn)
      · obtain ⟨Sg', op, E', c', hacc, hopl, hE, hop⟩ := hI
        obtain ⟨s, es, lb, rfl, hlb⟩ := ssal.at hy
        have hsm := List.mem_of_getElem? es
        have hcd := hscd s hsm
        have hjs : j < ss.length := (List.getElem?_eq_some_iff.mp es).1
        have hpne : ∀ {M5 : Hp} {p : Addr} {o : HO}, M5 D = some o → M5 p = none → D ≠ p := fun h1 h2 z => by subst z; rw [h1] at h2; cases h2
        refine ⟨rfl, rd_yes (iteT ?_)⟩
        apply rd_lst
        walk_at "rd"
        refine al_lstM S' (by walk_at "gv") (by simp) (fun l1 M5 H5 e5 S5 f5 n5 _ => ?_)
        have hD1 := hpne hm n5
        obtain ⟨a1, a2, a3⟩ := del_new hD1 e5 f5 n5
        obtain ⟨c5, x5⟩ := cst_new (k := .covs) c' a3 a1 a2 ⟨Nat.zero_le _, fun z hz => by cases hz⟩
        have hm5 : M5 D = some (.lst acc) := by rw [e5 _ hD1]; exact hm
        walk_at "rd"
        refine ⟨by simp [sizeLine_eq], fun l2 hl2 => ?_⟩
        obtain ⟨M6, e6, S6, f6⟩ := S5.addM (o := .lst [.ref lb, .ref l1]) hl2
        have hn6 := S5.fm hl2
        have hD2 := hpne hm5 hn6
        obtain ⟨b1, b2, b3⟩ := del_new hD2 e6 f6 hn6
        have c6 := cst_pair (s := s) c5 b3 b1 b2 ⟨_, l1, rfl, ⟨lb, rfl, E' _ _ hlb⟩, hcd, upS_same⟩
        have x6 : Ext (upS Sg' l1 .covs) (upS (upS Sg' l1 .covs) l2 (.cpair s)) := ext_new (.inl (c5.st.no b3))
        have hm6 : M6 D = some (.lst acc) := by rw [e6 _ hD2]; exact hm5
        refine ⟨acc, S6.m _ _ hm6, by rw [hacc, refs, List.length_map, hopl, sizeLine_eq]; omega, nc_push S6 hm6 ⟨_, op ++ [(l2, s)], E', c6, by rw [hacc, refs, refs, List.map_append]; rfl, by rw [List.length_append, hopl]; rfl, fun p hp => ?_, fun p hp => ?_⟩⟩
        · rcases List.mem_append.mp hp with hp | hp
          · exact emp_new (emp_new (hE p hp) a3 a1 x5) b3 b1 x6
          · rw [List.mem_singleton.mp hp]
            exact ⟨.ref lb, l1, b2, by rw [b1 _ (cst_ne b3 a2)]; exact a2, x6 _ _ upS_same (by intro s z; cases z)⟩
        · rcases List.mem_append.mp hp with hp | hp
          · exact hop p hp
          · rw [List.mem_singleton.mp hp]
            exact hsm
      · obtain ⟨Sg', op, E', c', hacc, hopl, hE, hop⟩ := hI
        rw [ssal.len] at hopl
        have hlaD : la ≠ D := cst_ne (o := .lst (LL.map fun l => V.ref l.1)) (M := del M' D) del_same c'.ml
        have hml' : M' la = some (.lst (LL.map fun l => V.ref l.1)) := by
          have := c'.ml
          rw [del_ne hlaD] at this
          exact this
        walk_at "rd"
        refine rd_appM S' hml' hll20 (fun M7 H7 e7 S7 f7 => ?_)
        have c7 := cst_close c' (by rw [hm, hacc]) e7 f7
        have hE7 : ∀ p ∈ op, Emp Sg' M7 p.1 := fun p hp => by
          obtain ⟨xv, b, h1, h2, h3⟩ := hE p hp
          have hk := c'.pk p (List.mem_append_right _ hp)
          have q1 : p.1 ≠ la := fun z => by have := c'.nl; rw [← z, hk] at this; cases this
          have q2 : b ≠ la := fun z => by have := c'.nl; rw [← z, h3] at this; cases this
          have q3 : p.1 ≠ D := cst_ne (M := del M' D) del_same h1
          have q4 : b ≠ D := cst_ne (M := del M' D) del_same h2
          rw [del_ne q3] at h1
          rw [del_ne q4] at h2
          exact ⟨xv, b, by rw [e7 _ q1]; exact h1, by rw [e7 _ q2]; exact h2, h3⟩
        have hnew : (LL ++ [(D, op)])[i]? = some (D, op) := by rw [List.getElem?_append_right (by omega), hLL, Nat.sub_self]; rfl
        have hL7' : ∀ l ∈ LL ++ [(D, op)], l.2.length ≤ 70000 ∧ ∀ p ∈ l.2, p.2.Nodup ∧ unsM x p.2 := fun l hl => by
          rcases List.mem_append.mp hl with hl | hl
          · exact hL7 l hl
          · rw [List.mem_singleton.mp hl]
            exact ⟨by dsimp only; omega, fun p hp => ⟨hlv.nd _ (hop p hp), hall _ (hop p hp)⟩⟩
        have hlen' : (LL ++ [(D, op)]).length = i + 1 := by rw [List.length_append, hLL]; rfl
        have E0' := E0n.trans E'
        have E5' := (E5.trans En).trans E'
        have hss' : rL rLI ss (.ref sb) G' := up_L up_LI _ _ _ _ E5' hss
        walk_at "rd"
        refine ⟨G', M7, (ss, x), S7, ⟨_, _, rfl, hss', up_Wd _ _ _ _ E0' hw, ok, hscd, hssz⟩, fun v G8 H8 E8 S8 ⟨ws, hws, wk⟩ => ?_⟩
        have hwcd := want_cd ok hscd wk
        have hwn : ws ≠ [] := by
          obtain ⟨s0, hs0⟩ := List.exists_mem_of_ne_nil _ hsne
          obtain ⟨t0, ht0⟩ := List.exists_mem_of_ne_nil _ hsm
          obtain ⟨w0, hw0, _⟩ := wk.al s0 hs0 t0 ht0
          exact fun z => by rw [z] at hw0; cases hw0
        have hwz : ws.length ≤ 700000 := by
          have h1 := wk.sz
          have h2 := ok.sz
          have h3 : x.sm.length * ss.length ≤ 9 * 70000 := Nat.mul_le_mul h2 hssz
          dsimp only at h1
          omega
        walk_at "rd"
        refine ⟨G8, M7, R, (ws, x), S8, c7.re, ⟨_, _, _, rfl, hws, up_Wd _ _ _ _ (E0'.trans E8) hw, rfl, ok, hwn, hwcd, hwz⟩, fun v G9 M9 H9 E9 O9 R9 S9 ⟨ks, hks, ck⟩ => ?_⟩
        obtain ⟨sb2, _, ev, _⟩ := id hks
        subst ev
        dsimp only at wk ck
        obtain ⟨hlv2, hcov2⟩ := lv_next ok pk hlv wk ck
        walk_at "rd"
        refine ⟨_, _, S9, sb2, _, _, _, _, ks, Sg', LL ++ [(D, op)], rfl, (E3.trans E5').trans (E8.trans E9), hks, hlv2, hno1, cst_draw (cst_same c7 E8) E9 O9 R9, hlen', hL7', fun l hl => ?_⟩
        rw [Nat.add_sub_cancel, hnew] at hl
        cases hl
        refine ⟨fun p hp => ?_, fun p hp => hcov2 _ (hop p hp)⟩
        have hk := c'.pk p (List.mem_append_right _ hp)
        exact emp_draw (hE7 p hp) O9 (fun z => by have := c7.hR; rw [← z, hk] at this; cases this) c7.hR
  case fin =>
    obtain ⟨sb, z5, z6, z7, z8, Sg, LL, rfl, E3, cst, hLL8, hpx, hno, hL7⟩ := hI
    have hml := cst.ml
    walk_at "rd"
    refine loopR (n := LL.length) (fun i σ G' M' => ∃ z5 z6 z7 z8 Sg', σ = [some (.ref wa), some (.ref R), some (.ref ra), some (.ref sb), some (.ref la), z5, z6, z7, z8] ∧ Same G3 G' ∧ Cvt x.rows.length R M Sg' G' M' 100 la LL (pairsOf (LL.drop i))) S4
      (by intro R_ q_; walk_at "rd"; rw [List.length_map]; exact q_) (by omega) ⟨_, _, _, _, Sg, rfl, Same.refl _, cvt_of cst⟩ (fun i σ G2' M2 H2 hi hI S2' => ?_) (fun σ G2' M2 H2 hI S2' => ?_)
    · obtain ⟨z5, z6, z7, z8, Sg2, rfl, E2', c2⟩ := hI
      have hLi : LL[i]? = some LL[i] := List.getElem?_eq_getElem hi
      have hdr : LL.drop i = LL[i] :: LL.drop (i + 1) := List.drop_eq_getElem_cons hi
      obtain ⟨l, el⟩ : ∃ l, l = LL[i] := ⟨_, rfl⟩
      rw [← el] at hLi hdr
      have hlm := List.mem_of_getElem? hLi
      obtain ⟨L, ps⟩ := l
      have hpend : pairsOf (LL.drop i) = ps ++ pairsOf (LL.drop (i + 1)) := by rw [hdr]; rfl
      rw [hpend] at c2
      have hml2 := c2.ml
      have hatL : atI (LL.map fun l => V.ref l.1) (i : Int) = some (.ref L) := at_of (j := i) rfl (by rw [List.getElem?_map, hLi]; rfl)
      have E02' := (E02.trans E3).trans E2'
      have hLm2 := (c2.mL _ hlm).1
      obtain ⟨_, hnu⟩ := hL7 _ hlm
      dsimp only at hnu
      walk_at "rd"
      refine loopL (refs ps) (fun j σ G' M' => ∃ z6 z7 z8 Sg', σ = [some (.ref wa), some (.ref R), some (.ref ra), some (.ref sb), some (.ref la), some (.int i), z6, z7, z8] ∧ Same G2' G' ∧ Cvt x.rows.length R M Sg' G' M' 100 la LL (ps.drop j ++ pairsOf (LL.drop (i + 1)))) S2' (by walk_at "gv")
        ⟨_, _, _, Sg2, rfl, Same.refl _, c2⟩ (fun j σ G' M' hI H' S' => ?_) (fun j x3 σ G' M' H' hx3 hI S' => ?_) (fun σ G' M' H' hI S' => ?_)
      · obtain ⟨_, _, _, _, rfl, _, c'⟩ := hI
        exact S'.m _ _ (c'.mL _ hlm).1
      · obtain ⟨z6, z7, z8, Sg', rfl, E', c'⟩ := hI
        have hj : j < ps.length := by
          have := (List.getElem?_eq_some_iff.mp hx3).1
          rw [refs, List.length_map] at this
          exact this
        have hdp : ps.drop j = ps[j] :: ps.drop (j + 1) := List.drop_eq_getElem_cons hj
        have hpj : ps[j]? = some ps[j] := List.getElem?_eq_getElem hj
        obtain ⟨ps0, eps0⟩ : ∃ z, z = ps[j] := ⟨_, rfl⟩
        rw [← eps0] at hpj hdp
        obtain ⟨p, s⟩ := ps0
        have hx4 := hx3
        rw [refs, List.getElem?_map, hpj] at hx4
        cases hx4
        rw [hdp, List.cons_append] at c'
        have hpk := c'.pk _ (List.mem_cons_self ..)
        dsimp only at hpk
        obtain ⟨_, hMp, xv, b0, rfl, ⟨cb, rfl, hcb⟩, hcd, hsb0⟩ := c'.st p _ hpk
        obtain ⟨hnd, hun⟩ := hnu (p, s) (List.mem_of_getElem? hpj)
        dsimp only at hnd hun
        have hp0 : atI [V.ref cb, V.ref b0] 0 = some (.ref cb) := rfl
        have E0' := E02'.trans E'
        have hml' := c'.ml
        have hpR : p ≠ R := fun z => by have := c'.hR; rw [← z, hpk] at this; cases this
        apply rd_name
        apply rd_seq
        refine cut_nx (fun σ G4 M4 => ∃ z8 s2 cb2 Mc, σ = [some (.ref wa), some (.ref R), some (.ref ra), some (.ref sb), some (.ref la), some (.int i), z6, some (.ref p), z8] ∧ Same G' G4 ∧ Cvt x.rows.length R M Sg' G4 Mc 100 la LL ((p, s) :: (ps.drop (j + 1) ++ pairsOf (LL.drop (i + 1)))) ∧
          (∀ b, b ≠ p → M4 b = Mc b) ∧ M4 p = some (.lst [.ref cb2, .ref b0]) ∧ G4 cb2 = some (.lst (s2.map V.int)) ∧ CdOk x.rows.length s2) (fun σ G4 M4 H4 hI S4 => ?go) (fun go => ?sh)
        case sh =>
          have nogo : ∀ G4 M4 H4, Same G' G4 → Off (· = R) M' M4 → Rest M4 R → Hs G4 M4 H4 → Same G' G4 ∧ Cvt x.rows.length R M Sg' G4 M4 100 la LL ((p, s) :: (ps.drop (j + 1) ++ pairsOf (LL.drop (i + 1)))) ∧ (∀ b, b ≠ p → M4 b = M4 b) ∧ M4 p = some (.lst [.ref cb, .ref b0]) ∧ G4 cb = some (.lst (s.map V.int)) ∧ CdOk x.rows.length s :=
            fun G4 M4 H4 E4 O4 R4 S4 => ⟨E4, cvt_draw c' E4 O4 R4, fun _ _ => rfl, by rw [O4 _ hpR]; exact hMp, E4 _ _ hcb, hcd⟩
          walk_at "rd"
          refine rd_ite (fun h0 => ?_) (fun h0 => ?_)
          · walk_at "rd"
            refine rd_ite (fun h1 => ?_) (fun h1 => ?_)
            · walk_at "rd"
              refine ⟨G', M', R, 2, S', c'.re, ⟨_, _, rfl, rfl, rfl, by decide⟩, fun v G4 M4 H4 E4 O4 R4 S4 ⟨d, ed, d0, d1⟩ => ?_⟩
              subst ed
              have g4 : M4 p = some (.lst [.ref cb, .ref b0]) := by rw [O4 _ hpR]; exact hMp
              walk_at "rd"
              refine rd_ite (fun h2 => ?_) (fun h2 => ?_)
              · walk_at "rd"
                refine ⟨G4, M4, R, (s, x), S4, R4, ⟨_, _, _, rfl, ⟨cb, rfl, E4 _ _ hcb⟩, ⟨ra, rx, rfl, (E0'.trans E4) _ _ hra, ral.up up_TI (E0'.trans E4)⟩, rfl, hcd, hnd, hun⟩, fun v G5 M5 H5 E5 O5 R5 S5 ⟨s2, ⟨cb2, ev, hcb2⟩, hcd2⟩ => ?_⟩
                subst ev
                have g5 : M5 p = some (.lst [.ref cb, .ref b0]) := by rw [O5 _ hpR]; exact g4
                walk_at "rd"
                refine rd_setM S5 g5 (show ixN _ 0 = some 0 from rfl) (fun M6 H6 e6 S6 f6 => ?_)
                exact go _ G5 M6 H6 ⟨_, s2, cb2, M5, rfl, E4.trans E5, cvt_draw (cvt_draw c' E4 O4 R4) E5 O5 R5, e6, f6, hcb2, hcd2⟩ S6
              · walk_at "rd"
                exact go _ G4 M4 H4 ⟨_, s, cb, M4, rfl, nogo G4 M4 H4 E4 O4 R4 S4⟩ S4
            · refine iteF ?_
              walk_at "rd"
              exact go _ G' M' H' ⟨_, s, cb, M', rfl, nogo G' M' H' (Same.refl _) off_refl c'.re S'⟩ S'
          · refine ⟨false, rfl, (if_neg Bool.false_ne_true).mpr ?_⟩
            walk_at "rd"
            refine iteF ?_
            walk_at "rd"
            exact go _ G' M' H' ⟨_, s, cb, M', rfl, nogo G' M' H' (Same.refl _) off_refl c'.re S'⟩ S'
        case go =>
          obtain ⟨z8, s2, cb2, Mc, rfl, E4, c4, e4, g4, hcb4, hcd2⟩ := hI
          have hq0 : atI [V.ref cb2, V.ref b0] 0 = some (.ref cb2) := rfl
          have E04 := E0'.trans E4
          obtain ⟨hd0, hd16, hdr4⟩ := decM_in ok hcd2
          walk_at "rd"
          apply rd_cL
          walk_at "rd"
          refine compLM up_TI ((decM x s2).map some) S4 gv_cE hcb4 (by simp [decM]) (by simp [sizeLine_eq]; omega) (by intro _; rfl) yes_all (fun i1 x1 y1 G5 M5 H5 hx1 ho E5 S5 Q' kk => ?_) (fun l racc G5 M5 H5 E5 e5 n5 S5 f5 al5 => ?_)
          · have ey := some_at ho
            obtain ⟨cd, ecd, rfl⟩ := int_at hx1
            unfold decM at ey
            rw [List.getElem?_map, ecd] at ey
            cases ey
            obtain ⟨d0, d1⟩ := hcd2.2.2 cd (List.mem_of_getElem? ecd)
            obtain ⟨r, v, er, hat, q, eq, hq⟩ := at_rel ral d0 (by rw [ral.len]; exact d1)
            subst eq
            have e3 : x.rows.getD cd.toNat [] = r := by rw [List.getD_eq_getElem?_getD, er]; rfl
            have hra5 := E5 _ _ (E04 _ _ hra)
            walk_at "rd"
            exact kk _ G5 H5 (Same.refl _) S5 ⟨q, rfl, by dsimp only; rw [e3]; exact E5 _ _ (E04 _ _ hq)⟩
          rw [filt_some] at al5
          have hrl5 := al5.len
          have hrok : ∀ y ∈ racc, ∃ r : Row, rTI r y G5 ∧ r.length ≤ 100 := fun y hy => by
            obtain ⟨iy, hiy⟩ := List.getElem?_of_mem hy
            obtain ⟨r, er, hr⟩ := al5.at hiy
            exact ⟨r, hr, by have := (hdr4 r (List.mem_of_getElem? er)).2; omega⟩
          have hlp : l ≠ p := (cst_ne n5 g4).symm
          have hnc : Mc l = none := by rw [← e4 _ hlp]; exact n5
          obtain ⟨c5, x5⟩ := cvt_new (k := .rows) (M' := upd Mc l (.lst racc)) (cvt_same c4 E5) hnc (fun b hb => upd_ne hb) upd_same ⟨by omega, hrok⟩
          have g5 : M5 p = some (.lst [.ref cb2, .ref b0]) := by rw [e5 _ hlp.symm]; exact g4
          walk_at "rd"
          refine rd_setM S5 g5 (show ixN _ 0 = some 0 from rfl) (fun M6 H6 e6 S6 f6 => ?_)
          obtain ⟨cv6, x6⟩ := cvt_conv c5 (M' := M6) (fun b hb => by
            rw [e6 _ hb]
            by_cases hbl : b = l
            · subst hbl
              rw [f5, upd_same]
            · rw [e5 _ hbl, e4 _ hb, upd_ne hbl]) f6 ⟨l, b0, rfl, upS_same, x5 _ _ hsb0 (by intro s z; cases z)⟩
          exact ⟨_, _, S6, _, _, _, _, rfl, E'.trans (E4.trans E5), cv6⟩
      · obtain ⟨z6, z7, z8, Sg', rfl, E', c'⟩ := hI
        have e1 : ps.drop (refs ps).length = [] := by rw [refs, List.length_map, List.drop_length]
        rw [e1, List.nil_append] at c'
        exact ⟨_, _, S', _, _, _, _, Sg', rfl, E2'.trans E', c'⟩
    · obtain ⟨z5, z6, z7, z8, Sg2, rfl, E2', c2⟩ := hI
      walk_at "rd"
      refine k G2' M2 H2 la _ ((E02.trans E3).trans E2') (fun b o hb ho => (c2.fr b o hb ho).1) c2.re S2' c2.ml ?_ ?_ ?_
      · rw [List.length_map]; exact hpx
      · rw [List.length_map]; exact hno
      · rw [List.length_map]; exact hLL8
end
end N
/-! PQ: the law: the numbers of a script that is read as it was given -/
namespace N
open PySem L2
section
variable {K : PySem.W.Frag} {G M H : Hp} {Q : VK} {p : Addr} {ys : List V} {v : V} {i : Int}
theorem rd_lenQ (h : SqL K H p ys) (q : Q (.int ys.length) H) : rLn K [.ref p] H Q := ⟨p, ys, rfl, .inl h, q⟩
theorem rd_ixQ (h : SqL K H p ys) (e : atI ys i = some v) (q : Q v H) : rIxL K (.ref p) (.int i) H Q := ⟨p, ys, i, v, rfl, rfl, h, e, q⟩
theorem sq_up (S : Hs G M H) (h : SqL K G p ys) : SqL K H p ys := h.elim (fun h => .inl (h.elim (fun h => .inl (S.g _ _ h)) fun ⟨o, h⟩ => .inr ⟨o, S.g _ _ h⟩)) fun h => .inr h
end
local macro_rules | `(tactic| walk_at "r1") => `(tactic| first
  | ((with_reducible apply rd_lenQ); (exact sq_up (by assumption) (by assumption)))
  | ((with_reducible apply rd_ixQ); (exact sq_up (by assumption) (by assumption)); (first | assumption | exact rfl)))
section
variable {P : Program} {w : World} {K : PySem.W.Frag} {mg : Str → Option Value} {base : Heap}
def sp_l_numbersQ (K : PySem.W.Frag) : Sp := fun vs H Q _ => ∃ (G M : Hp) (v : V) (ns : List Int) (n : Nat), Hs G M H ∧ vs = [v, .int (n : Int)] ∧ (∃ a, v = .ref a ∧ SqL K G a (ns.map V.int)) ∧ n ≤ 1000 ∧ ns.length ≤ 1000 ∧
  ∀ R G' M' H', Same G G' → (∀ b, b ≠ R → M' b = M b) → M R = none → Rest M' R → Hs G' M' H' → Q (.ref R) H'
theorem ok_l_numbersQ (T : Bt mg) (F : Dfn K mg "_law_numbers" s_l_numbers) : Has P w K mg base 1 "_law_numbers" ["_law_script", "_law_count"] (sp_l_numbersQ K) := by
  refine F.ok sc_l_numbers (fun _ _ _ _ _ _ us hl => match us, hl with | [_, _], _ => rfl) (fun vs H Q E h => by obtain ⟨_, _, _, _, _, _, rfl, _⟩ := h; rfl) (fun f cdv A outer s H vs Q E hr h => ?_)
  obtain ⟨G, M, v, ns, n, S, rfl, ⟨a, rfl, ha⟩, hn, hnl, k⟩ := h
  refine ⟨_, (pss_cons (ps_set (i := 2) sc_l_numbers.nd rfl (Or.inl rfl) pe_int)
    (pss_cons (ps_if (pt_cmpR op_gt (pe_callB (lenS K) (by rfl) T.len PySem.boot_len (pa_cons (pv 0) pa_nil)) pe_int (nomark _))
     (pss_one (ps_set (i := 2) sc_l_numbers.nd rfl (Or.inl rfl) (pe_ix (ixL K) (pv 0) pe_int (fun _ _ => rfl))))
     pss_nil)
    (pss_cons (ps_set (i := 3) sc_l_numbers.nd rfl (Or.inl rfl) (pe_cmpR op_ge (pv 2) (pe_op op_pow pe_int pe_int) (nomark _)))
    (pss_cons (ps_set (i := 4) sc_l_numbers.nd rfl (Or.inl rfl) (pe_lst pa_nil))
    (pss_cons (ps_for PassesOwn.never rfl (pi_range1 (by rfl) T.range (pa_cons (pv 1) pa_nil)) (pg_name (i := 5) sc_l_numbers.nd rfl (Or.inl rfl))
     (pss_one (ps_if (PW.pt (pw_and (pt_val (pv 3)) (pw_and1 (pt_cmpR op_gt (pv 2) pe_int (nomark _)))))
      (pss_cons (ps_expr (pe_bm PySem.F.plainAttrs_list PySem.F.slot_list_append PySem.F.type_list_append mt_append (pv 4) (pa_cons (pe_op op_mod (pv 2) pe_int) pa_nil)))
      (pss_one (ps_set (i := 2) sc_l_numbers.nd rfl (Or.inl rfl) (pe_op op_fdiv (pv 2) pe_int))))
      (pss_cons (ps_set (i := 6) sc_l_numbers.nd rfl (Or.inl rfl) pe_int)
      (pss_cons (ps_if (pt_cmpR op_gt (pe_callB (lenS K) (by rfl) T.len PySem.boot_len (pa_cons (pv 0) pa_nil)) pe_int (nomark _))
       (pss_one (ps_set (i := 6) sc_l_numbers.nd rfl (Or.inl rfl) (pe_op op_add (pe_ix (ixL K) (pv 0) (pe_op op_mod (pv 5) (pe_callB (lenS K) (by rfl) T.len PySem.boot_len (pa_cons (pv 0) pa_nil))) (fun _ _ => rfl)) (pe_op op_mul pe_int (pv 5)))))
       pss_nil)
      (pss_one (ps_expr (pe_bm PySem.F.plainAttrs_list PySem.F.slot_list_append PySem.F.type_list_append mt_append (pv 4) (pa_cons (pe_op op_mod (pe_op op_mod (pe_op op_mul (pe_op op_mod (pe_op op_mul (pv 6) pe_int) pe_int) pe_int) pe_int) pe_int) pa_nil)))))))))
    (pss_one (ps_ret (pe_listRev rfl (by rfl) T.list (by rfl) T.reversed (pa_cons (pv 4) pa_nil))))))))), ?_⟩
  walk_at "rd"
  refine rd_ite (fun h0 => ?_) (fun h0 => ?_)
  have hl : 0 < ns.length := by simpa using h0
  have h00 : atI (ns.map V.int) 0 = some (.int ns[0]) := at_of (j := 0) rfl (by rw [List.getElem?_map, List.getElem?_eq_getElem hl]; rfl)
  walk_at "rd"
  rotate_left
  walk_at "rd"
  all_goals
    refine al_lstM S (by walk_at "gv") (by simp) (fun pl M1 H1 e1 S1 f1 n1 _ => ?_)
    walk_at "rd"
    refine loopR (n := n) (fun i σ G' M' => ∃ rest bd z5 z6 acc, σ = [some (.ref a), some (.int n), some (.int rest), some (.bl bd), some (.ref pl), z5, z6] ∧ G' = G ∧ (∀ b, b ≠ pl → M' b = M b) ∧ M' pl = some (.lst (acc.map V.int)) ∧ acc.length = i)
      S1 (by walk_at "gv") (by omega) ⟨_, _, _, _, [], rfl, rfl, e1, f1, rfl⟩ (fun i σ G' M' H' hi hI S' => ?_) (fun σ G' M' H' hI S' => ?_)
    · obtain ⟨rest, bd, z5, z6, acc, rfl, rfl, e', f', hacc⟩ := hI
      have step : ∀ (x : Int) (M2 : Hp) (H2 : Hp), (∀ b, b ≠ pl → M2 b = M' b) → Hs G' M2 H2 → M2 pl = some (.lst ((acc.map V.int) ++ [V.int x])) → (∀ b, b ≠ pl → M2 b = M b) ∧ M2 pl = some (.lst ((acc ++ [x]).map V.int)) ∧ (acc ++ [x]).length = i + 1 :=
        fun x M2 H2 e2 _ f2 => ⟨fun b hb => (e2 b hb).trans (e' b hb), by rw [f2, List.map_append]; rfl, by rw [List.length_append, hacc]; rfl⟩
      have hsz : (acc.map V.int).length < sizeLine := by rw [List.length_map, hacc, sizeLine_eq]; omega
      walk_at "rd"
      refine rd_iteB (fun hb => ?_) (fun hb => ?_)
      · walk_at "rd"
        refine rd_ite (fun hr0 => ?_) (fun hr0 => ?_)
        · walk_at "rd"
          refine ⟨ty_lst (S'.m _ _ f'), ?_⟩
          walk_at "rd"
          refine rd_appM S' f' hsz (fun M2 H2 e2 S2 f2 => ?_)
          obtain ⟨q1, q2, q3⟩ := step _ M2 H2 e2 S2 f2
          walk_at "rd"
          exact ⟨_, _, S2, _, _, _, _, _, rfl, rfl, q1, q2, q3⟩
        · walk_at "rd"
          refine rd_ite (fun h5 => ?_) (fun h5 => ?_)
          · have hlen : 0 < ns.length := by simpa using h5
            have hm0 : 0 ≤ ((i : Nat) : Int) % ((ns.map V.int).length : Int) := Int.emod_nonneg _ (by omega)
            have hm1 : ((i : Nat) : Int) % ((ns.map V.int).length : Int) < ((ns.map V.int).length : Int) := Int.emod_lt_of_pos _ h5
            have hk : (((i : Nat) : Int) % ((ns.map V.int).length : Int)).toNat < ns.length := by rw [List.length_map] at hm1 ⊢; omega
            have hat : atI (ns.map V.int) (((i : Nat) : Int) % ((ns.map V.int).length : Int)) = some (.int ns[(((i : Nat) : Int) % ((ns.map V.int).length : Int)).toNat]) :=
              at_of (j := (((i : Nat) : Int) % ((ns.map V.int).length : Int)).toNat) (by omega) (by rw [List.getElem?_map, List.getElem?_eq_getElem hk]; rfl)
            walk_at "rd"
            refine ⟨ty_lst (S'.m _ _ f'), ?_⟩
            walk_at "rd"
            refine rd_appM S' f' hsz (fun M2 H2 e2 S2 f2 => ?_)
            obtain ⟨q1, q2, q3⟩ := step _ M2 H2 e2 S2 f2
            walk_at "rd"
            exact ⟨_, _, S2, _, _, _, _, _, rfl, rfl, q1, q2, q3⟩
          · walk_at "rd"
            refine ⟨ty_lst (S'.m _ _ f'), ?_⟩
            walk_at "rd"
            refine rd_appM S' f' hsz (fun M2 H2 e2 S2 f2 => ?_)
            obtain ⟨q1, q2, q3⟩ := step _ M2 H2 e2 S2 f2
            walk_at "rd"
            exact ⟨_, _, S2, _, _, _, _, _, rfl, rfl, q1, q2, q3⟩
      · walk_at "rd"
        refine iteF ?_
        walk_at "rd"
        refine rd_ite (fun h5 => ?_) (fun h5 => ?_)
        · have hlen : 0 < ns.length := by simpa using h5
          have hm0 : 0 ≤ ((i : Nat) : Int) % ((ns.map V.int).length : Int) := Int.emod_nonneg _ (by omega)
          have hm1 : ((i : Nat) : Int) % ((ns.map V.int).length : Int) < ((ns.map V.int).length : Int) := Int.emod_lt_of_pos _ h5
          have hk : (((i : Nat) : Int) % ((ns.map V.int).length : Int)).toNat < ns.length := by rw [List.length_map] at hm1 ⊢; omega
          have hat : atI (ns.map V.int) (((i : Nat) : Int) % ((ns.map V.int).length : Int)) = some (.int ns[(((i : Nat) : Int) % ((ns.map V.int).length : Int)).toNat]) :=
            at_of (j := (((i : Nat) : Int) % ((ns.map V.int).length : Int)).toNat) (by omega) (by rw [List.getElem?_map, List.getElem?_eq_getElem hk]; rfl)
          walk_at "rd"
          refine ⟨ty_lst (S'.m _ _ f'), ?_⟩
          walk_at "rd"
          refine rd_appM S' f' hsz (fun M2 H2 e2 S2 f2 => ?_)
          obtain ⟨q1, q2, q3⟩ := step _ M2 H2 e2 S2 f2
          walk_at "rd"
          exact ⟨_, _, S2, _, _, _, _, _, rfl, rfl, q1, q2, q3⟩
        · walk_at "rd"
          refine ⟨ty_lst (S'.m _ _ f'), ?_⟩
          walk_at "rd"
          refine rd_appM S' f' hsz (fun M2 H2 e2 S2 f2 => ?_)
          obtain ⟨q1, q2, q3⟩ := step _ M2 H2 e2 S2 f2
          walk_at "rd"
          exact ⟨_, _, S2, _, _, _, _, _, rfl, rfl, q1, q2, q3⟩
    · obtain ⟨rest, bd, z5, z6, acc, rfl, rfl, e', f', hacc⟩ := hI
      obtain ⟨G5, E5, S5, f5⟩ := S'.drop f' e' n1
      walk_at "rd"
      apply rd_lrev
      walk_at "rd"
      refine ⟨pl, _, rfl, SqL.of (S5.g _ _ f5), fun R hR => ?_⟩
      obtain ⟨M6, e6, S6, f6⟩ := S5.addM (o := .lst (acc.map V.int).reverse) hR
      exact k R G5 M6 _ E5 e6 (S5.fm hR) ⟨acc.reverse, by rw [f6, List.map_reverse]⟩ S6
end
end N
/-! PC: the law -/
namespace N
open PySem L2
theorem pick_w {i : Int} (h0 : 0 ≤ i) (h1 : i < 5) : ∃ wn : Nat, 1 ≤ wn ∧ wn ≤ 4 ∧ atI [V.int 2, V.int 3, V.int 2, V.int 3, V.int 1] i = some (.int (wn : Int)) := by
  have h : i = 0 ∨ i = 1 ∨ i = 2 ∨ i = 3 ∨ i = 4 := by omega
  rcases h with rfl | rfl | rfl | rfl | rfl
  · exact ⟨2, by decide, by decide, rfl⟩
  · exact ⟨3, by decide, by decide, rfl⟩
  · exact ⟨2, by decide, by decide, rfl⟩
  · exact ⟨3, by decide, by decide, rfl⟩
  · exact ⟨1, by decide, by decide, rfl⟩
theorem pick_s {i : Int} (h0 : 0 ≤ i) (h1 : i < 2) : ∃ wd : Str, (wd = "fewest" ∨ wd = "layers") ∧ atI [V.str "fewest", V.str "layers"] i = some (.str wd) := by
  have h : i = 0 ∨ i = 1 := by omega
  rcases h with rfl | rfl
  · exact ⟨_, .inl rfl, rfl⟩
  · exact ⟨_, .inr rfl, rfl⟩
theorem pick_o {i : Int} (h0 : 0 ≤ i) (h1 : i < 8) : ∃ d : Int, d ≠ 0 ∧ -2 ≤ d ∧ d ≤ 4 ∧ atI [V.int 1, V.int 1, V.int 2, V.int (-1), V.int (-1), V.int (-2), V.int 3, V.int 4] i = some (.int d) := by
  have h : i = 0 ∨ i = 1 ∨ i = 2 ∨ i = 3 ∨ i = 4 ∨ i = 5 ∨ i = 6 ∨ i = 7 := by omega
  rcases h with rfl | rfl | rfl | rfl | rfl | rfl | rfl | rfl
  · exact ⟨1, by decide, by decide, by decide, rfl⟩
  · exact ⟨1, by decide, by decide, by decide, rfl⟩
  · exact ⟨2, by decide, by decide, by decide, rfl⟩
  · exact ⟨-1, by decide, by decide, by decide, rfl⟩
  · exact ⟨-1, by decide, by decide, by decide, rfl⟩
  · exact ⟨-2, by decide, by decide, by decide, rfl⟩
  · exact ⟨3, by decide, by decide, by decide, rfl⟩
  · exact ⟨4, by decide, by decide, by decide, rfl⟩
/-- the steps of a word -/
def stpM (wd : Str) (n : Nat) : List (List Cp) := if wd = "layers" then slM n else fwM n
structure SwOk (wd : Str) (n : Nat) (sts : List (List Cp)) : Prop where
  eq : ∀ st, st ∈ sts ↔ st ∈ stpM wd n
  sz : sts.length ≤ 9
theorem sw_fw {wd : Str} {n : Nat} (hn : n ≤ 4) (h : ¬ wd = "layers") : SwOk wd n (fwM n) :=
  ⟨fun st => by unfold stpM; rw [if_neg h], by have := (ly_sl n hn).2.2.2; unfold fwM; rw [List.length_map]; omega⟩
theorem sw_sl {wd : Str} {n : Nat} {l : List (List Cp)} (hn : n ≤ 4) (h : wd = "layers") (p : l.Perm (lyM n).tail) : SwOk wd n l := by
  obtain ⟨h1, h2, h3, _⟩ := ly_sl n hn
  refine ⟨fun st => ?_, by rw [p.length_eq]; exact h3⟩
  unfold stpM
  rw [if_pos h, p.mem_iff]
  exact ⟨h1 st, h2 st⟩
theorem sw_ss {wd : Str} {n : Nat} {sts : List (List Cp)} (hn : n ≤ 4) (h : SwOk wd n sts) : SsOk n sts := by
  refine ss_congr h.eq ?_
  unfold stpM
  split
  · exact ss_sl hn
  · exact ss_fw hn
theorem sw_fin {wd : Str} {n : Nat} {sts : List (List Cp)} (hn : n ≤ 4) (h : SwOk wd n sts) : ∃ m, m ≤ 7 ∧ PR sts m (plainM n) := by
  have : ∃ m, m ≤ 7 ∧ PR (stpM wd n) m (plainM n) := by
    unfold stpM
    split
    · exact fin_sl hn
    · exact fin_fw hn
  obtain ⟨m, hm, k⟩ := this
  exact ⟨m, hm, (PR_congr h.eq _ _).mpr k⟩
theorem fw_in : ∀ n, n ≤ 4 → ∀ st ∈ fwM n, ∀ c ∈ st, (decide (0 ≤ c.1) && decide (c.1 < n) && decide (0 ≤ c.2) && decide (c.2 < n) && decide (c.1 ≠ c.2)) = true := by decide +kernel
theorem sl_in : ∀ n, n ≤ 4 → ∀ st ∈ slM n, ∀ c ∈ st, (decide (0 ≤ c.1) && decide (c.1 < n) && decide (0 ≤ c.2) && decide (c.2 < n) && decide (c.1 ≠ c.2)) = true := by decide +kernel
theorem sw_in {wd : Str} {n : Nat} {sts : List (List Cp)} (hn : n ≤ 4) (h : SwOk wd n sts) : ∀ st ∈ sts, ∀ c ∈ st, CpIn n c ∧ c.1 ≠ c.2 := fun st hs c hc => by
  have h1 := (h.eq st).mp hs
  have h2 : (decide (0 ≤ c.1) && decide (c.1 < n) && decide (0 ≤ c.2) && decide (c.2 < n) && decide (c.1 ≠ c.2)) = true := by
    unfold stpM at h1
    split at h1
    · exact sl_in n hn st h1 c hc
    · exact fw_in n hn st h1 c hc
  simp only [Bool.and_eq_true, decide_eq_true_eq] at h2
  obtain ⟨⟨⟨⟨a, b⟩, c'⟩, d⟩, e⟩ := h2
  exact ⟨⟨a, b, c', d⟩, e⟩
theorem sw_one : ∀ n, n ≤ 1 → slM n = [] ∧ fwM n = [] := by decide +kernel
theorem sw_two {wd : Str} {n : Nat} {sts : List (List Cp)} (h : SwOk wd n sts) (hne : sts ≠ []) : 2 ≤ n := by
  refine Nat.le_of_not_lt fun z => ?_
  obtain ⟨st, hs⟩ := List.exists_mem_of_ne_nil _ hne
  have h1 := (h.eq st).mp hs
  obtain ⟨e1, e2⟩ := sw_one n (by omega)
  unfold stpM at h1
  split at h1
  · rw [e1] at h1; cases h1
  · rw [e2] at h1; cases h1
/-- no paper of the word shows a number that is not the least one -/
theorem law_no {wd : Str} {n : Nat} {sts : List (List Cp)} {L : Nat} {number : Int} (hn : n ≤ 4) (h : SwOk wd n sts) (hL : LeastR n sts L) (hne : number ≠ L) (hw : wd = "fewest" ∨ wd = "layers") (x : Paper) (hx : x.1 = wd) : ¬ Fewest n number x ∧ ¬ Layers n number x := by
  have hL := least_congr h.eq hL
  constructor
  · intro k
    have e : wd = "fewest" := hx.symm.trans k.1
    subst e
    unfold stpM at hL
    rw [if_neg (by decide)] at hL
    exact hne (fewest_eq hn hL k)
  · intro k
    have e : wd = "layers" := hx.symm.trans k.1
    subst e
    unfold stpM at hL
    rw [if_pos rfl] at hL
    exact hne (layers_eq hn hL k)
section
variable {P : Program} {w : World} {K : PySem.W.Frag} {mg : Str → Option Value} {base : Heap}
theorem fn_ok {x : Str} {st : Stmt} {N ps : List Str} {k : Nat} {sp : Sp} {f : Addr} {fd : FuncData} (FD : FunD K x x (defArgs st) (defBody st) (defScope st) [] [] f fd) (S : FnScope N ps (defScope st))
    (len : ∀ vs H Q E, sp vs H Q E → vs.length = ps.length)
    (body : ∀ (f : Addr) (cdv : Value) (A : Around) (outer : List Env) (s : Shared) (H : Hp) (vs : List V) (Q : VK) (E : XK),
      Room k (A.deeper (PyProof.Rows.envOfC x (defScope st) s.heap.objs.size f cdv)) → sp vs H Q E →
      ∃ t, PSs (cxOf CX0 P w K mg base N x (defScope st) f cdv A outer s H E).nox (defBody st) t ∧ t { nx := fun _ H' => Q .non H', rt := Q } (start N vs) H) :
    FnOk P w K mg base CX0 (k + 1) f fd ps sp :=
  FD.ok S len fun cdv A outer s H vs Q E hr hsp => by
    obtain ⟨t, h1, h2⟩ := body f cdv A outer s H vs Q E hr hsp
    exact ⟨t, h1.nox, h2⟩
def sp_law (K : PySem.W.Frag) : Sp := fun vs H Q _ => ∃ (a : Addr) (ns : List Int), vs = [.ref a] ∧ SqL K H a (ns.map V.int) ∧ ns.length ≤ 1000 ∧ ∀ H', Q (.bl true) H'
theorem ok_law {f : Addr} {fd : FuncData} (T : Bt mg) (F : FunD K "law" "law" (defArgs s_law) (defBody s_law) (defScope s_law) [] [] f fd) (h_l_numbers : Has P w K mg base 1 "_law_numbers" ["_law_script", "_law_count"] (sp_l_numbersQ K)) (h_l_draw : Has P w K mg base 1 "_law_draw" ["_law_rest", "_law_limit"] sp_l_draw)
    (h_l_comparers : Has P w K mg base 1 "_law_comparers" ["_law_wires"] sp_l_comparers) (h_l_layers : Has P w K mg base 2 "_law_layers" ["_law_wires"] sp_l_layers) (h_l_world : Has P w K mg base 2 "_law_world" ["_law_wires", "_law_steps"] sp_l_world)
    (h_l_planted : Has P w K mg base 4 "_law_planted" ["_law_world_here", "_law_rest"] sp_l_planted) (h_l_sorter : Has P w K mg base 1 "_law_sorter" ["_law_wires", "_law_names"] sp_l_sorter)
    (h_l_stretched : Has P w K mg base 2 "_law_stretched" ["_law_wires", "_law_comparers_here", "_law_number", "_law_word", "_law_rest"] sp_l_stretched) (h_l_untrue : Has P w K mg base 6 "_law_untrue" ["_law_world_here", "_law_count", "_law_rest"] sp_l_untrue)
    (h_l_change : Has P w K mg base 5 "_law_change" ["_law_tree", "_law_wires", "_law_rest"] sp_l_change) (h_l_told : Has P w K mg base 6 "_law_told" ["_law_wires", "_law_number", "_law_tree"] sp_l_told) :
    FnOk P w K mg base CX0 7 f fd ["_law_script"] (sp_law K) := by
  refine fn_ok F sc_law (fun vs H Q E h => by obtain ⟨_, _, rfl, _⟩ := h; rfl) (fun f cdv A outer s H vs Q E hr h => ?_)
  obtain ⟨a, ns, rfl, ha, hns, k⟩ := h
  have S := Hs.all H
  refine ⟨_, (pss_cons (ps_set (i := 1) sc_law.nd rfl (Or.inl rfl) (pe_fn h_l_numbers hr (pa_cons (pv 0) (pa_cons pe_int pa_nil))))
    (pss_cons (ps_set (i := 2) sc_law.nd rfl (Or.inl rfl) (pe_ix (ixL K) (pe_lst (pa_cons pe_int (pa_cons pe_int (pa_cons pe_int (pa_cons pe_int (pa_cons pe_int pa_nil)))))) (pe_fn h_l_draw hr (pa_cons (pv 1) (pa_cons pe_int pa_nil))) (fun _ _ => rfl)))
    (pss_cons (ps_if (pt_cmpR op_eq (pe_fn h_l_draw hr (pa_cons (pv 1) (pa_cons pe_int pa_nil))) pe_int (nomark _))
     (pss_one (ps_set (i := 2) sc_law.nd rfl (Or.inl rfl) pe_int))
     pss_nil)
    (pss_cons (ps_set (i := 3) sc_law.nd rfl (Or.inl rfl) (pe_ix (ixL K) (pe_lst (pa_cons pe_str (pa_cons pe_str pa_nil))) (pe_fn h_l_draw hr (pa_cons (pv 1) (pa_cons pe_int pa_nil))) (fun _ _ => rfl)))
    (pss_cons (ps_setLc (i := 4) (own := [("_law_pair", 5)]) rfl sc_law.nd rfl rfl (sw_true rfl rfl rfl (by decide +kernel)) (piL K (pe_fn h_l_comparers hr (pa_cons (pv 2) pa_nil))) (blkOk_by (N := ["_law_script", "_law_rest", "_law_wires", "_law_word", "_law_steps", "_law_pair", "_law_world_here", "_law_least", "_law_number", "_law_names", "_law_comparers_here", "_law_tree", "_law_k"]) (sc := defScope s_law) (by decide +kernel)) (fun _ _ _ _ _ => (pg_name (i := 5) sc_law.nd rfl (Or.inl rfl))) (fun _ _ _ _ _ => pts_nil) (fun _ _ _ _ _ => (pe_tup (pa_cons (pv 5) pa_nil))))
    (pss_cons (ps_if (pt_cmpR op_eq (pv 3) pe_str (nomark _))
     (pss_one (ps_set (i := 4) sc_law.nd rfl (Or.inl rfl) (pe_fn h_l_layers hr (pa_cons (pv 2) pa_nil))))
     pss_nil)
    (pss_cons (ps_set (i := 6) sc_law.nd rfl (Or.inl rfl) (pe_fn h_l_world hr (pa_cons (pv 2) (pa_cons (pv 4) pa_nil))))
    (pss_cons (ps_set (i := 7) sc_law.nd rfl (Or.inl rfl) (pe_callB (lenS K) (by rfl) T.len PySem.boot_len (pa_cons (pe_fn h_l_planted hr (pa_cons (pv 6) (pa_cons (pe_callTy (lstO K) (by rfl) T.list (by decide +kernel) (pa_cons (pv 1) pa_nil)) pa_nil))) pa_nil)))
    (pss_cons (ps_set (i := 8) sc_law.nd rfl (Or.inl rfl) (pe_op op_add (pv 7) (pe_ix (ixL K) (pe_lst (pa_cons pe_int (pa_cons pe_int (pa_cons pe_int (pa_cons (pe_un un_neg pe_int) (pa_cons (pe_un un_neg pe_int) (pa_cons (pe_un un_neg pe_int) (pa_cons pe_int (pa_cons pe_int pa_nil))))))))) (pe_fn h_l_draw hr (pa_cons (pv 1) (pa_cons pe_int pa_nil))) (fun _ _ => rfl))))
    (pss_cons (ps_set (i := 9) sc_law.nd rfl (Or.inl rfl) (pe_ix (ixL K) (pe_ix (ixL K) (pv 6) pe_int (fun _ _ => rfl)) (pe_fn h_l_draw hr (pa_cons (pv 1) (pa_cons (pe_callB (lenS K) (by rfl) T.len PySem.boot_len (pa_cons (pe_ix (ixL K) (pv 6) pe_int (fun _ _ => rfl)) pa_nil)) pa_nil))) (fun _ _ => rfl)))
    (pss_cons (ps_set (i := 10) sc_law.nd rfl (Or.inl rfl) (pe_fn h_l_sorter hr (pa_cons (pv 2) (pa_cons (pv 9) pa_nil))))
    (pss_cons (ps_if (PW.pt (pw_or (pt_cmpR op_gt (pv 8) (pv 7) (nomark _)) (pw_or1 (pt_cmpR op_gt (pe_fn h_l_draw hr (pa_cons (pv 1) (pa_cons pe_int pa_nil))) pe_int (nomark _)))))
     (pss_one (ps_set (i := 10) sc_law.nd rfl (Or.inl rfl) (pe_fn h_l_stretched hr (pa_cons (pv 2) (pa_cons (pv 10) (pa_cons (pv 8) (pa_cons (pv 3) (pa_cons (pv 1) pa_nil))))))))
     pss_nil)
    (pss_cons (ps_set (i := 11) sc_law.nd rfl (Or.inl rfl) (pe_lst (pa_cons (pv 3) (pa_cons (pv 10) (pa_cons (pe_fn h_l_untrue hr (pa_cons (pv 6) (pa_cons (pe_callB (call_max2 rfl) (by rfl) T.max (by decide +kernel) (pa_cons (pv 8) (pa_cons pe_int pa_nil))) (pa_cons (pv 1) pa_nil)))) pa_nil)))))
    (pss_cons (ps_if (pt_cmpR op_eq (pe_fn h_l_draw hr (pa_cons (pv 1) (pa_cons pe_int pa_nil))) pe_int (nomark _))
     (pss_cons (ps_for PassesOwn.never rfl (pi_range1 (by rfl) T.range (pa_cons (pe_op op_add pe_int (pe_fn h_l_draw hr (pa_cons (pv 1) (pa_cons pe_int pa_nil)))) pa_nil)) (pg_name (i := 12) sc_law.nd rfl (Or.inl rfl))
      (pss_one (ps_expr (pe_fn h_l_change hr (pa_cons (pv 11) (pa_cons (pv 2) (pa_cons (pv 1) pa_nil)))))))
     (pss_one (ps_asg (pv 3) (pg_sub (pv 11) pe_int set_list))))
     pss_nil)
    (pss_one (ps_ret (pe_fn h_l_told hr (pa_cons (pv 2) (pa_cons (pv 8) (pa_cons (pv 11) pa_nil)))))))))))))))))))), ?_⟩
  walk_at "rd"
  refine ⟨H, _, .ref a, ns, 420, S, rfl, ⟨a, rfl, ha⟩, by decide, hns, fun R G1 M1 H1 E1 e1 n1 R1 S1 => ?_⟩
  walk_at "rd"
  refine al_lst S1 (by walk_at "gv") (by simp [sizeLine_eq]) (fun q2 G2 H2 E2 S2 f2 => ?_)
  walk_at "rd"
  refine ⟨G2, M1, R, 5, S2, R1, ⟨_, _, rfl, rfl, rfl, by decide⟩, fun v G3 M3 H3 E3 O3 R3 S3 ⟨i3, ei3, i30, i31⟩ => ?_⟩
  subst ei3
  obtain ⟨wn0, hw01, hw04, hat3⟩ := pick_w i30 i31
  have f3 := E3 _ _ f2
  refine rd_ixL (S3.g _ _ f3) hat3 ?_
  apply rd_name
  dsimp only
  apply rd_seq
  refine cut_nx (fun σ G' M' => ∃ wn : Nat, 1 ≤ wn ∧ wn ≤ 4 ∧ σ = [some (.ref a), some (.ref R), some (.int (wn : Int)), none, none, none, none, none, none, none, none, none, none] ∧ Rest M' R) (fun σ G4 M4 H4 hI S4 => ?go1) (fun go => ?if1)
  case if1 =>
    walk_at "rd"
    refine ⟨G3, M3, R, 12, S3, R3, ⟨_, _, rfl, rfl, rfl, by decide⟩, fun v G4 M4 H4 E4 O4 R4 S4 ⟨i4, ei4, _, _⟩ => ?_⟩
    subst ei4
    walk_at "rd"
    refine rd_ite (fun h1 => ?_) (fun h1 => ?_)
    · apply rd_asg
      apply rd_c
      apply rd_name
      exact go _ G4 M4 H4 ⟨4, by decide, by decide, rfl, R4⟩ S4
    · apply rd_next
      exact go _ G4 M4 H4 ⟨wn0, hw01, hw04, rfl, R4⟩ S4
  case go1 =>
    clear hat3 f3 f2 hw01 hw04
    obtain ⟨wn, hw1, hw4, rfl, R4⟩ := hI
    walk_at "rd"
    refine al_lst S4 (by walk_at "gv") (by simp [sizeLine_eq]) (fun q5 G5 H5 E5 S5 f5 => ?_)
    walk_at "rd"
    refine ⟨G5, M4, R, 2, S5, R4, ⟨_, _, rfl, rfl, rfl, by decide⟩, fun v G6 M6 H6 E6 O6 R6 S6 ⟨i6, ei6, i60, i61⟩ => ?_⟩
    subst ei6
    obtain ⟨wd, hwd, hat6⟩ := pick_s i60 i61
    have f6 := E6 _ _ f5
    walk_at "rd"
    apply rd_cL
    walk_at "rd"
    refine ⟨G6, M6, wn, S6, ⟨_, rfl, rfl, by omega⟩, fun v G7 H7 E7 S7 ⟨cb, cx, ev, hcb, cal⟩ => ?_⟩
    cases ev
    refine compL (R := rT rP) (up_T up_P) ((fwM wn).map some) S7 gv_cE hcb (by simp [fwM, cal.len]) ?_ (by intro _; rfl) yes_all (fun i x1 y G8 M8 H8 hx1 ho E8 S8 Q' kk => ?_) (fun p acc G8 H8 E8 S8 e8 al8 => ?_)
    · have := (ly_sl wn hw4).2.2.2
      simp [fwM, sizeLine_eq]
      omega
    · have ey := some_at ho
      obtain ⟨d, ed, hd⟩ := cal.at hx1
      unfold fwM at ey
      rw [List.getElem?_map, ed] at ey
      cases ey
      walk_at "rd"
      refine al_tup S8 (by walk_at "gv") (by rw [sizeLine_eq]; simp) (fun l G9 H9 E9 S9 f9 => ?_)
      exact kk _ G9 H9 E9 S9 ⟨l, _, rfl, f9, All2.nil.cons (up_P _ _ _ _ (E8.trans E9) hd)⟩
    rw [filt_some] at al8
    apply rd_name
    dsimp only
    apply rd_seq
    refine cut_nx (fun σ G' M' => ∃ sts v4, σ = [some (.ref a), some (.ref R), some (.int (wn : Int)), some (.str wd), some v4, none, none, none, none, none, none, none, none] ∧ SwOk wd wn sts ∧ rL (rT rP) sts v4 G' ∧ Rest M' R) (fun σ G9 M9 H9 hI S9 => ?go2) (fun go => ?if2)
    case if2 =>
      walk_at "rd"
      refine rd_ite (fun h1 => ?_) (fun h1 => ?_)
      · walk_at "rd"
        refine ⟨G8, M6, wn, S8, ⟨_, rfl, rfl, hw4⟩, fun v G9 H9 E9 S9 ⟨l, hp, hl⟩ => ?_⟩
        apply rd_name
        exact go _ G9 M6 H9 ⟨l, v, rfl, sw_sl hw4 h1 hp, hl, R6⟩ S9
      · apply rd_next
        exact go _ G8 M6 H8 ⟨fwM wn, _, rfl, sw_fw hw4 h1, ⟨p, acc, rfl, e8, al8⟩, R6⟩ S8
    case go2 =>
      obtain ⟨sts, v4, rfl, sw, hsts, R9⟩ := hI
      have ss := sw_ss hw4 sw
      have wok := wd_ok hw1 hw4 ss sw.sz
      have plk := pl_ok hw4 ss (sw_fin hw4 sw)
      walk_at "rd"
      refine ⟨G9, M9, (wn, sts), S9, ⟨_, _, rfl, rfl, hsts, hw4, sw_in hw4 sw, by have := sw.sz; dsimp only; omega⟩, fun v G10 H10 E10 S10 hw10 => ?_⟩
      dsimp only at hw10
      obtain ⟨wa, w1, w2, w3, w4, ev, hwa, hwr, ⟨na, nx, e2, hna, nal⟩, hwn, hws⟩ := id hw10
      subst ev
      subst e2
      obtain ⟨rs, hrs⟩ := R9
      walk_at "rd"
      refine al_lsLM S10 (S10.m _ _ hrs) (fun Rc M11 H11 e11 S11 f11 n11 _ => ?_)
      have hRR : R ≠ Rc := cst_ne n11 hrs
      walk_at "rd"
      refine ⟨G10, M11, Rc, wdM wn sts, _, _, S11, ⟨rs, f11⟩, rfl, hw10, wok, plk, fun G12 M12 H12 la0 xs E12 kp12 R12 S12 f12 hpx hno hx8 => ?_⟩
      have hrs12 : M12 R = some (.lst (rs.map V.int)) := kp12 R _ hRR (by rw [e11 _ hRR]; exact hrs)
      have hL : LeastR wn sts xs.length := by
        refine ⟨?_, fun m hm z => hno m hm ?_⟩
        · rw [dec_full] at hpx
          exact hpx
        · rw [dec_full]
          exact z
      walk_at "rd"
      refine al_lst S12 (by intro R_ q_; walk_at "rd"; refine ⟨1, rfl, ?_⟩; walk_at "rd"; refine ⟨1, rfl, ?_⟩; walk_at "rd"; refine ⟨2, rfl, ?_⟩; walk_at "rd"; exact q_) (by simp [sizeLine_eq]) (fun q13 G13 H13 E13 S13 f13 => ?_)
      walk_at "rd"
      refine ⟨G13, M12, R, 8, S13, ⟨rs, hrs12⟩, ⟨_, _, rfl, rfl, rfl, by decide⟩, fun v G14 M14 H14 E14 O14 R14 S14 ⟨i14, ei14, i140, i141⟩ => ?_⟩
      subst ei14
      obtain ⟨df, hdf, hdf1, hdf2, hat14⟩ := pick_o i140 i141
      have f14 := E14 _ _ f13
      have E1014 := (E12.trans E13).trans E14
      have hwa14 := E1014 _ _ hwa
      have hna14 := E1014 _ _ hna
      have hat1 : atI [w1, V.ref na, w3, w4] 1 = some (.ref na) := rfl
      have hnl := nal.len
      have hnz : (namesM wn).length ≠ 0 := fun z => wok.n0 (by rw [wdM]; dsimp only; rw [List.length_eq_zero_iff.mp z]; rfl)
      walk_at "rd"
      refine ⟨G14, M14, R, nx.length, S14, R14, ⟨_, _, rfl, rfl, rfl, by rw [hnl]; show (0 : Int) < ((namesM wn).length : Int); omega⟩, fun v G15 M15 H15 E15 O15 R15 S15 ⟨i15, ei15, i150, i151⟩ => ?_⟩
      subst ei15
      obtain ⟨nms, nv, en, enat, nb, env, hnb⟩ := at_rel nal i150 i151
      subst env
      obtain ⟨hnm1, hnm2⟩ := names_in wn hw4 nms (List.mem_of_getElem? en)
      have E1015 := E1014.trans E15
      have hna15 := E1015 _ _ hna
      obtain ⟨number, hnum⟩ : ∃ z : Int, z = (xs.length : Int) + df := ⟨_, rfl⟩
      rw [← hnum]
      have hne : number ≠ (xs.length : Int) := by omega
      have hnu1 : -1000 ≤ number := by omega
      have hnu2 : number ≤ 12 := by omega
      walk_at "rd"
      refine ⟨G15, M15, (wn, nms), S15, ⟨_, _, rfl, rfl, ⟨nb, rfl, E1015 _ _ hnb⟩, hw1, hw4, hnm1, hnm2⟩, fun p16 xs16 G16 M16 H16 E16 e16 n16 S16 f16 ⟨cs, hcs, hcl, hcin⟩ => ?_⟩
      dsimp only at hcl hcin
      have R16 : Rest M16 R := rest_set R15 e16 (rest_ne (o := .lst []) R15 n16)
      have hp16R : p16 ≠ R := rest_ne (o := .lst []) R15 n16
      have hw16 := up_Wd _ _ _ _ (E1015.trans E16) hw10
      obtain ⟨hs5, _⟩ := srtL_in wn hw4
      apply rd_name
      dsimp only
      apply rd_seq
      refine cut_nx (fun σ G' M' => ∃ ca acc cs', σ = [some (.ref a), some (.ref R), some (.int (wn : Int)), some (.str wd), some v4, none, some (.ref wa), some (.int (xs.length : Int)), some (.int number), some (.ref nb), some (.ref ca), none, none] ∧ Same G16 G' ∧ ca ≠ R ∧ M' ca = some (.lst acc) ∧ All2 rP G' cs' acc ∧ cs'.length ≤ 100 ∧ Rest M' R) (fun σ G17 M17 H17 hI S17 => ?go3) (fun go => ?if3)
      case if3 =>
        have strc : ∀ G17 M17 H17 (Q' : VK) (E' : XK), Same G16 G17 → Off (· = R) M16 M17 → Rest M17 R → Hs G17 M17 H17 →
            (∀ p acc cs' G' M' H', Same G16 G' → p ≠ R → M' p = some (.lst acc) → All2 rP G' cs' acc → cs'.length ≤ 100 → Rest M' R → Hs G' M' H' → Q' (.ref p) H') → sp_l_stretched [.int (wn : Int), .ref p16, .int number, .str wd, .ref R] H17 Q' E' := fun G17 M17 H17 Q' E' E17 O17 R17 S17 kk =>
          ⟨G17, M17, R, p16, wn, cs, xs16, number, wd, S17, R17, rfl, by rw [O17 _ hp16R]; exact f16, hcs.up up_P E17, hcin, by omega, (fun h2 z => by
            rw [z] at hcl
            have : ∀ m : Nat, 2 ≤ m → m ≤ 4 → (srtL m).length ≠ 0 := by
              intro m h1 h2
              have hc : m = 2 ∨ m = 3 ∨ m = 4 := by omega
              rcases hc with rfl | rfl | rfl <;> decide
            exact this wn h2 hw4 hcl.symm), hw1, hw4, hnu1, by omega, fun p acc cs' G' M' H' E' e' n' R' S' f' al' hl' => kk p acc cs' G' M' H' (E17.trans E') (rest_ne (o := .lst []) R17 n') f' al' hl' R' S'⟩
        walk_at "rd"
        refine rd_ite (fun h1 => ?_) (fun h1 => ?_)
        · refine iteT ?_
          walk_at "rd"
          refine strc G16 M16 H16 _ _ (Same.refl _) off_refl R16 S16 (fun p acc cs' G' M' H' E' n' f' al' hl' R' S' => ?_)
          apply rd_name
          exact go _ G' M' H' ⟨p, acc, cs', rfl, E', n', f', al', hl', R'⟩ S'
        · walk_at "rd"
          refine ⟨G16, M16, R, 3, S16, R16, ⟨_, _, rfl, rfl, rfl, by decide⟩, fun v G17 M17 H17 E17 O17 R17 S17 ⟨i17, ei17, _, _⟩ => ?_⟩
          subst ei17
          walk_at "rd"
          refine rd_ite (fun h2 => ?_) (fun h2 => ?_)
          · walk_at "rd"
            refine strc G17 M17 H17 _ _ E17 O17 R17 S17 (fun p acc cs' G' M' H' E' n' f' al' hl' R' S' => ?_)
            apply rd_name
            exact go _ G' M' H' ⟨p, acc, cs', rfl, E', n', f', al', hl', R'⟩ S'
          · apply rd_next
            exact go _ G17 M17 H17 ⟨p16, xs16, cs, rfl, E17, hp16R, by rw [O17 _ hp16R]; exact f16, hcs.up up_P E17, by omega, R17⟩ S17
      case go3 =>
        obtain ⟨ca, acc, cs', rfl, E17, hcR, hca, hcs', hcl', R17⟩ := hI
        have hw17 := up_Wd _ _ _ _ E17 hw16
        have hacl := hcs'.len
        walk_at "rd"
        apply rd_lst
        walk_at "rd"
        refine ⟨_, _, rfl, ?_⟩
        walk_at "rd"
        obtain ⟨cnt, hcnt⟩ : ∃ m : Nat, (if (0 : Int) > number then (0 : Int) else number) = (m : Int) := by
          by_cases h : (0 : Int) > number
          · exact ⟨0, by rw [if_pos h]; rfl⟩
          · exact ⟨number.toNat, by rw [if_neg h]; omega⟩
        have hcnt2 : cnt ≤ 12 := by
          by_cases h : (0 : Int) > number
          · rw [if_pos h] at hcnt; omega
          · rw [if_neg h] at hcnt; omega
        refine ⟨G17, M17, R, wdM wn sts, cnt, .ref wa, S17, R17, by rw [hcnt]; rfl, hw17, wok, by omega, fun hsm => ?_, fun G18 M18 H18 Sg la E18 stp hla S18 => ?_⟩
        · have hsne : sts ≠ [] := fun z => hsm (by rw [z]; rfl)
          have h2 := sw_two sw hsne
          rw [wd_len]
          have : 2 ^ 2 ≤ 2 ^ wn := Nat.pow_le_pow_right (by decide) h2
          omega
        obtain ⟨hca18, hSca⟩ := stp.fr ca _ rfl hcR hca
        walk_at "rd"
        refine ⟨by simp [sizeLine_eq], fun tr htr => ?_⟩
        obtain ⟨M19, e19, S19, f19⟩ := S18.addM (o := .lst [.str wd, .ref ca, .ref la]) htr
        have n19 := S18.fm htr
        have htR : tr ≠ R := rest_ne (o := .lst []) stp.re n19
        have htc : ca ≠ tr := cst_ne n19 hca18
        have hcal : ∀ y ∈ acc, ∃ c : Cp, rP c y G18 := fun y hy => by
          obtain ⟨iy, hiy⟩ := List.getElem?_of_mem hy
          obtain ⟨c, _, hc⟩ := hcs'.at hiy
          exact ⟨c, up_P _ _ _ _ E18 hc⟩
        have hSt : Sg tr = none := stp.st.no n19
        have hx : Ext Sg (upS Sg ca .cmps) := ext_new (.inl hSca)
        have hca19 : M19 ca = some (.lst acc) := by rw [e19 _ htc]; exact hca18
        have st19 : Sto (wdM wn sts).rows.length (upS Sg ca .cmps) G18 M19 100 := by
          refine (Sto.set stp.st (Nat.le_refl _) (fun _ _ => rfl) hca18 hx ⟨by omega, hcal⟩).off (fun b kd hb => e19 b fun z => ?_)
          rw [z, upS_ne htc.symm, hSt] at hb
          cases hb
        have tok : TreeOk (upS Sg ca .cmps) R tr ca la := ⟨htR, by rw [upS_ne htc.symm]; exact hSt, upS_same, hx _ _ hla (by intro s z; cases z)⟩
        have R19 := rest_set stp.re e19 htR
        have hSR : upS Sg ca .cmps R = none := by rw [upS_ne (Ne.symm hcR)]; exact stp.hR
        apply rd_name
        dsimp only
        apply rd_seq
        refine cut_nx (fun σ G' M' => ∃ z12 Sg' B, σ = [some (.ref a), some (.ref R), some (.int (wn : Int)), some (.str wd), some v4, none, some (.ref wa), some (.int (xs.length : Int)), some (.int number), some (.ref nb), some (.ref ca), some (.ref tr), z12] ∧ Sto (wdM wn sts).rows.length Sg' G' M' B ∧ B ≤ 900 ∧ M' tr = some (.lst [.str wd, .ref ca, .ref la]) ∧ Sg' ca = some .cmps ∧ Sg' la = some .levels) (fun σ G20 M20 H20 hI S20 => ?go4) (fun go => ?if4)
        case if4 =>
          walk_at "rd"
          refine ⟨G18, M19, R, 3, S19, R19, ⟨_, _, rfl, rfl, rfl, by decide⟩, fun v G20 M20 H20 E20 O20 R20 S20 ⟨i20, ei20, _, _⟩ => ?_⟩
          subst ei20
          have st20 := (st19.rest O20 hSR).up E20 (Nat.le_refl _)
          have g20 : M20 tr = some (.lst [.str wd, .ref ca, .ref la]) := by rw [O20 _ htR]; exact f19
          walk_at "rd"
          refine rd_ite (fun h1 => ?_) (fun h1 => ?_)
          · walk_at "rd"
            apply rd_fR
            walk_at "rd"
            refine ⟨G20, M20, R, 2, S20, R20, ⟨_, _, rfl, rfl, rfl, by decide⟩, fun v G21 M21 H21 E21 O21 R21 S21 ⟨i21, ei21, i210, i211⟩ => ?_⟩
            subst ei21
            obtain ⟨kn, hkn⟩ : ∃ m : Nat, 1 + i21 = (m : Int) := ⟨(1 + i21).toNat, by omega⟩
            have st21 := (st20.rest O21 hSR).up E21 (Nat.le_refl _)
            have g21 : M21 tr = some (.lst [.str wd, .ref ca, .ref la]) := by rw [O21 _ htR]; exact g20
            walk_at "rd"
            refine loopR (n := kn) (fun i σ G' M' => ∃ z12 Sg' wd', σ = [some (.ref a), some (.ref R), some (.int (wn : Int)), some (.str wd), some v4, none, some (.ref wa), some (.int (xs.length : Int)), some (.int number), some (.ref nb), some (.ref ca), some (.ref tr), z12] ∧ Sto (wdM wn sts).rows.length Sg' G' M' (100 + i) ∧ M' tr = some (.lst [.str wd', .ref ca, .ref la]) ∧ Rest M' R ∧ Sg' R = none ∧ TreeOk Sg' R tr ca la) S21
              (by rw [hkn]; exact gv_cA) (by omega) ⟨_, _, wd, rfl, st21, g21, R21, hSR, tok⟩ (fun i σ G' M' H' hi hI S' => ?_) (fun σ G' M' H' hI S' => ?_)
            · obtain ⟨z12, Sg', wd', rfl, st', g', R', hSR', tok'⟩ := hI
              walk_at "rd"
              exact ⟨G', M', R, tr, ca, la, _, Sg', 100 + i, wn, wd', S', R', hSR', st', by omega, by omega, rfl, tok', g', hw1, hw4, fun G2 M2 H2 Sg2 wd2 E2 S2 R2 hSR2 st2 tok2 g2 => ⟨_, _, S2, _, Sg2, wd2, rfl, st2, g2, R2, hSR2, tok2⟩⟩
            · obtain ⟨z12, Sg', wd', rfl, st', g', R', hSR', tok'⟩ := hI
              walk_at "rd"
              refine rd_setM S' g' (show ixN _ 0 = some 0 from rfl) (fun M2 H2 e2 S2 f2 => ?_)
              refine go _ G' M2 H2 ⟨z12, Sg', 100 + kn, rfl, st'.off (fun b kd hb => e2 b fun z => by rw [z, tok'.t] at hb; cases hb), by omega, f2, tok'.c, tok'.l⟩ S2
          · apply rd_next
            exact go _ G20 M20 H20 ⟨_, _, 100, rfl, st20, by decide, g20, tok.c, tok.l⟩ S20
        case go4 =>
          obtain ⟨z12, Sg', B, rfl, st, hB, g, hc, hl⟩ := hI
          walk_at "rd"
          exact ⟨G20, M20, tr, ca, la, _, Sg', B, wn, number, wd, S20, st, by omega, rfl, g, hc, hl, hw1, hw4, fun x hx => law_no hw4 sw hL hne hwd x hx, fun H' => k H'⟩
end
end N
/-! PD: the facts of the head, the end -/
namespace N
open PySem L2
section
variable {P : Program} {w : World} {K : PySem.W.Frag} {h : Heap} {mg : Str → Option Value}
theorem dfn_of {x : Str} {st : Stmt} (X : K.In h) (G : h.Ns mainGlobals mg) (c : He.SaysD fa fn K) (i j : Nat) (hi : fn[i]? = some ⟨(x, none), x, x, defArgs st, defBody st, defScope st, [], []⟩) (hj : fa[j]? = some (.glo x)) : Dfn K mg x st := by
  obtain ⟨fd, F⟩ := c.def_ i hi
  exact ⟨_, fd, F, He.glo_ok X G (c.fact j hj)⟩
theorem bt_of (X : K.In h) (G : h.Ns mainGlobals mg) (c : He.SaysD fa fn K) : Bt mg :=
  ⟨He.free_ok X G (c.fact 62 (f := .free "all") rfl), He.free_ok X G (c.fact 63 (f := .free "range") rfl), He.free_ok X G (c.fact 64 (f := .free "len") rfl), He.free_ok X G (c.fact 65 (f := .free "sorted") rfl), He.free_ok X G (c.fact 66 (f := .free "list") rfl), He.free_ok X G (c.fact 67 (f := .free "tuple") rfl), He.free_ok X G (c.fact 68 (f := .free "set") rfl), He.free_ok X G (c.fact 69 (f := .free "max") rfl), He.free_ok X G (c.fact 70 (f := .free "min") rfl), He.free_ok X G (c.fact 71 (f := .free "sum") rfl), He.free_ok X G (c.fact 72 (f := .free "int") rfl), He.free_ok X G (c.fact 73 (f := .free "reversed") rfl), He.free_ok X G (c.fact 74 (f := .free "enumerate") rfl)⟩
theorem net_of {base : Heap} (X : K.In h) (G : h.Ns mainGlobals mg) (c : He.SaysD fa fn K) : NetOk P w K mg base (He.ga K "Network") := by
  have T := bt_of X G c
  have cl := He.cls_ok (c.fact 75 (f := .cls "Network") rfl)
  have nW := He.noat_ok (c.fact 76 (f := .noat "Network" "wires") rfl)
  have nC := He.noat_ok (c.fact 77 (f := .noat "Network" "comparers") rfl)
  have mk := He.mkr_ok (c.fact 78 (f := .mkr "Network") rfl)
  obtain ⟨fd, F⟩ := c.def_ 61 (d := d_init) rfl
  exact ⟨cl, nW, nC, He.glo_ok X G (c.fact 61 (f := .glo "Network") rfl), _, fd, mk, ok_init F T cl nW nC, F.bindsN (fun _ _ _ _ _ _ us hl => match us, hl with | [_, _, _], _ => rfl)⟩
theorem facts {f : Addr} (X : K.In h) (G : h.Ns mainGlobals mg) (hfa : mg ("law" : Str) = some (.ref f)) (c : He.SaysD fa fn K) :
    ∃ fd : FuncData, (∀ (s : Shared) (v : Value), BindsTo s fd ⟨[v], []⟩ [("_law_script", v)]) ∧ ∀ base : Heap, K.In base → base.Ns mainGlobals mg → FnOk P w K mg base CX0 7 f fd ["_law_script"] (sp_law K) := by
  obtain ⟨fd, F⟩ := c.def_ 60 (d := d_law) rfl
  have e := hfa.symm.trans (He.glo_ok X G (c.fact 60 (f := .glo "law") rfl))
  cases e
  have b := FunD.bindsA (ps := ["_law_script"]) F fun _ _ _ _ _ _ us hl => match us, hl with | [_], _ => rfl
  have T := bt_of X G c
  refine ⟨fd, fun s v => b s [v] rfl, fun base _ _ => ?_⟩
  have hN : NetOk P w K mg base (He.ga K "Network") := net_of X G c
  have h_noughts := ok_noughts (P := P) (w := w) (base := base) T (dfn_of X G c 2 2 rfl rfl)
  have h_is_sorted := ok_is_sorted (P := P) (w := w) (base := base) T (dfn_of X G c 0 0 rfl rfl)
  have h_plain_rows := ok_plain_rows (P := P) (w := w) (base := base) T (dfn_of X G c 1 1 rfl rfl)
  have h_is_plain := ok_is_plain (P := P) (w := w) (base := base) T (dfn_of X G c 3 3 rfl rfl)
  have h_is_state := ok_is_state (P := P) (w := w) (base := base) T (dfn_of X G c 4 4 rfl rfl) h_is_plain
  have h_is_renaming := ok_is_renaming (P := P) (w := w) (base := base) T (dfn_of X G c 5 5 rfl rfl)
  have h_renamed_row := ok_renamed_row (P := P) (w := w) (base := base) T (dfn_of X G c 6 6 rfl rfl)
  have h_passed := ok_passed (P := P) (w := w) (base := base) T (dfn_of X G c 7 7 rfl rfl)
  have h_results := ok_results (P := P) (w := w) (base := base) T (dfn_of X G c 8 8 rfl rfl) h_passed
  have h_is_covered := ok_is_covered (P := P) (w := w) (base := base) T (dfn_of X G c 9 9 rfl rfl) h_renamed_row
  have h_is_unsettled := ok_is_unsettled (P := P) (w := w) (base := base) T (dfn_of X G c 10 10 rfl rfl) h_noughts
  have h_standard_comparers := ok_standard_comparers (P := P) (w := w) (base := base) T (dfn_of X G c 11 11 rfl rfl)
  have h_is_apart := ok_is_apart (P := P) (w := w) (base := base) T (dfn_of X G c 12 12 rfl rfl)
  have h_standard_layers := ok_standard_layers (P := P) (w := w) (base := base) T (dfn_of X G c 13 13 rfl rfl) h_standard_comparers h_is_apart
  have h_has_states := ok_has_states (P := P) (w := w) (base := base) T (dfn_of X G c 14 14 rfl rfl) h_is_state
  have h_begins_whole := ok_begins_whole (P := P) (w := w) (base := base) T (dfn_of X G c 15 15 rfl rfl) h_plain_rows
  have h_ends_unsettled := ok_ends_unsettled (P := P) (w := w) (base := base) T (dfn_of X G c 17 17 rfl rfl) h_is_unsettled
  have h_leads_on := ok_leads_on (P := P) (w := w) (base := base) T (dfn_of X G c 16 16 rfl rfl) h_is_renaming h_is_covered h_results
  have h_shows_need := ok_shows_need (P := P) (w := w) (base := base) T (dfn_of X G c 18 18 rfl rfl) h_has_states h_begins_whole h_leads_on h_ends_unsettled
  have h_layers := ok_layers (P := P) (w := w) (base := base) T (dfn_of X G c 19 19 rfl rfl)
  have h_depth := ok_depth (P := P) (w := w) (base := base) T (dfn_of X G c 20 20 rfl rfl) h_layers
  have h_is_standard_sorter := ok_is_standard_sorter (P := P) (w := w) (base := base) T (dfn_of X G c 21 21 rfl rfl) h_plain_rows h_is_sorted h_passed
  have h_takes_fewest := ok_takes_fewest (P := P) (w := w) (base := base) T (dfn_of X G c 22 22 rfl rfl) h_is_standard_sorter h_standard_comparers h_shows_need
  have h_takes_layers := ok_takes_layers (P := P) (w := w) (base := base) hN T (dfn_of X G c 23 23 rfl rfl) h_is_standard_sorter h_depth h_standard_layers h_shows_need
  have h_l_draw := ok_l_draw (P := P) (w := w) (base := base) T (dfn_of X G c 25 25 rfl rfl)
  have h_l_code := ok_l_code (P := P) (w := w) (base := base) T (dfn_of X G c 27 27 rfl rfl)
  have h_l_rows := ok_l_rows (P := P) (w := w) (base := base) T (dfn_of X G c 26 26 rfl rfl)
  have h_l_comparers := ok_l_comparers (P := P) (w := w) (base := base) T (dfn_of X G c 31 31 rfl rfl)
  have h_l_named := ok_l_named (P := P) (w := w) (base := base) T (dfn_of X G c 29 29 rfl rfl)
  have h_l_passed := ok_l_passed (P := P) (w := w) (base := base) T (dfn_of X G c 28 28 rfl rfl)
  have h_l_all_names := ok_l_all_names (P := P) (w := w) (base := base) T (dfn_of X G c 30 30 rfl rfl)
  have h_l_apart := ok_l_apart (P := P) (w := w) (base := base) T (dfn_of X G c 32 32 rfl rfl)
  have h_l_layers := ok_l_layers (P := P) (w := w) (base := base) T (dfn_of X G c 33 33 rfl rfl) h_l_comparers h_l_apart
  have h_l_mask := ok_l_mask (P := P) (w := w) (base := base) T (dfn_of X G c 36 36 rfl rfl)
  have h_l_images := ok_l_images (P := P) (w := w) (base := base) T (dfn_of X G c 37 37 rfl rfl) h_l_mask
  have h_l_hits := ok_l_hits (P := P) (w := w) (base := base) T (dfn_of X G c 38 38 rfl rfl) h_l_mask
  have h_l_unsettled := ok_l_unsettled (P := P) (w := w) (base := base) T (dfn_of X G c 41 41 rfl rfl)
  have h_l_wanted := ok_l_wanted (P := P) (w := w) (base := base) T (dfn_of X G c 39 39 rfl rfl)
  have h_l_world := ok_l_world (P := P) (w := w) (base := base) T (dfn_of X G c 35 35 rfl rfl) h_l_rows h_l_all_names h_l_code h_l_named h_l_passed
  have h_l_sorter := ok_l_sorter (P := P) (w := w) (base := base) T (dfn_of X G c 46 46 rfl rfl)
  have h_l_value := ok_l_value (P := P) (w := w) (base := base) T (dfn_of X G c 47 47 rfl rfl) h_l_draw
  have h_l_chosen := ok_l_chosen (P := P) (w := w) (base := base) T (dfn_of X G c 40 40 rfl rfl) h_l_draw h_l_hits h_l_images
  have h_l_frozen := ok_l_frozen (P := P) (w := w) (base := base) T (dfn_of X G c 45 45 rfl rfl)
  have h_l_change_comparers := ok_l_change_comparers (P := P) (w := w) (base := base) T (dfn_of X G c 48 48 rfl rfl) h_l_draw h_l_value
  have h_l_change_state := ok_l_change_state (P := P) (w := w) (base := base) T (dfn_of X G c 49 49 rfl rfl) h_l_draw h_l_value
  have h_l_change_covers := ok_l_change_covers (P := P) (w := w) (base := base) T (dfn_of X G c 50 50 rfl rfl) h_l_draw h_l_value
  have h_l_rowsM := ok_l_rowsM (P := P) (w := w) (base := base) T (dfn_of X G c 26 26 rfl rfl)
  have h_l_change_level := ok_l_change_level (P := P) (w := w) (base := base) T (dfn_of X G c 51 51 rfl rfl) h_l_draw h_l_rowsM h_l_change_state h_l_change_covers
  have h_l_change := ok_l_change (P := P) (w := w) (base := base) T (dfn_of X G c 52 52 rfl rfl) h_l_draw h_l_change_comparers h_l_change_level
  have h_l_told := ok_l_told (P := P) (w := w) (base := base) T (dfn_of X G c 59 59 rfl rfl) h_l_frozen h_takes_fewest h_takes_layers
  have h_l_entry := ok_l_entry (P := P) (w := w) (base := base) T (dfn_of X G c 53 53 rfl rfl) h_l_hits h_l_draw
  have h_l_following := ok_l_following (P := P) (w := w) (base := base) T (dfn_of X G c 54 54 rfl rfl) h_l_chosen h_l_draw h_l_wanted h_l_unsettled
  have h_l_hopeful := ok_l_hopeful (P := P) (w := w) (base := base) T (dfn_of X G c 55 55 rfl rfl) h_l_following h_l_images h_l_wanted h_l_entry
  have h_l_ended := ok_l_ended (P := P) (w := w) (base := base) T (dfn_of X G c 56 56 rfl rfl) h_l_draw h_l_unsettled
  have h_l_untrue := ok_l_untrue (P := P) (w := w) (base := base) T (dfn_of X G c 57 57 rfl rfl) h_l_hopeful h_l_ended
  have h_l_depthM := ok_l_depthM (P := P) (w := w) (base := base) T (dfn_of X G c 34 34 rfl rfl)
  have h_l_stretched := ok_l_stretched (P := P) (w := w) (base := base) T (dfn_of X G c 58 58 rfl rfl) h_l_comparers h_l_draw h_l_depthM
  have h_l_shrunk := ok_l_shrunk (P := P) (w := w) (base := base) T (dfn_of X G c 43 43 rfl rfl) h_l_draw
  have h_l_fill := ok_l_fill (P := P) (w := w) (base := base) T (dfn_of X G c 42 42 rfl rfl) h_l_images h_l_wanted h_l_hits h_l_draw
  have h_l_planted := ok_l_planted (P := P) (w := w) (base := base) T (dfn_of X G c 44 44 rfl rfl) h_l_unsettled h_l_fill h_l_wanted h_l_chosen h_l_draw h_l_shrunk
  have h_l_numbersQ := ok_l_numbersQ (P := P) (w := w) (base := base) T (dfn_of X G c 24 24 rfl rfl)
  exact ok_law T F h_l_numbersQ h_l_draw h_l_comparers h_l_layers h_l_world h_l_planted h_l_sorter h_l_stretched h_l_untrue h_l_change h_l_told
end
end N
open PySem PySem.W PySem.Calls PyProof.Rows
theorem PySem.Challenge.cw_neededrows_k69_whole_no_untrue_number_holds : PySem.Challenge.rw_neededrows_k69_whole_no_untrue_number.Holds := by
  w_on; o_law
  refine HandSHeadRun.head_any (r := OpenLaw.row PySem.Challenge.rw_neededrows_k69_whole_no_untrue_number) (q := view (OpenLaw.row PySem.Challenge.rw_neededrows_k69_whole_no_untrue_number).prog [71]) (H := N.hk) (ob := N.ob) (M := 4000) (loose := N.loose) (d := HandSHeadRun.topDef (OpenLaw.row PySem.Challenge.rw_neededrows_k69_whole_no_untrue_number).prog 71) (kwd := []) N.ob_eq
    (by kernel_rfl) (fun s => by kernel_rfl) N.run (by kernel_rfl) (by kernel_rfl) (by kernel_rfl) (by rfl) (by first | assumption | decide +kernel) (by decide +kernel) ⟨rfl, rfl, rfl, rfl, rfl, by decide +kernel⟩ ?hw ?hc
  case hw => w_witness2
  case hc =>
    refine L2.walk_ofE (l := PySem.Challenge.rw_neededrows_k69_whole_no_untrue_number) (n := 63) (k := 7) (x := "_law_script") (CX := L2.CX0) rfl (by decide) (by kernel_rfl) ⟨rfl, by decide, by decide⟩ ?F (fun _ _ _ _ z => z)
    intro w mg fa h Y G hmg0
    obtain ⟨K, KX, c⟩ := Y
    have hmg : mg ("law" : PySem.Str) = some (.ref fa) := by
      have e : (HandSHeadRun.topDef (OpenLaw.row PySem.Challenge.rw_neededrows_k69_whole_no_untrue_number).prog 71).name = ("law" : PySem.Str) := by kernel_rfl
      rw [← e]
      exact hmg0
    obtain ⟨fd, hb, hF⟩ := N.facts (P := (PySem.Challenge.rw_neededrows_k69_whole_no_untrue_number).prog) (w := w) KX G hmg c
    exact ⟨K, fd, N.sp_law K, KX, hb, fun H a ns hl _ hS => ⟨a, ns, rfl, hS, Nat.le_trans hl (by decide), fun _ => rfl⟩, hF⟩
